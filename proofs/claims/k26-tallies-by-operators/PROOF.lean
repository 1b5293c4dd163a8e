import PyProof.Rows.All
import Wide.All
import OpenK.AllK
import Wide.FinOn
import HandS.ForMost
import HandS.ForExc
import HandS.Flow
import HandS.Style
import HandS.IsInst
import HandS.Wide
import HandS.TupAny
import HandS.EndBits
import HandS.Walk
import HandS.TupMul
import HandS.DictComp
import HandS.TupLe
import HandS.Deep
import HandS.More
import HandS.Lambda
import HandS.ExcCtx
import HandS.HotCalls
import HandS.EndTab
import HandS.ExcValue
import HandS.ExcInit
import KE.KeyNested
import HandS.NoneIn
import HandS.Strs
import HandS.ListItems
import HandS.RevTup
import KE.KDictPairs
import HandS.Star
import HandS.CallLocal
import HandS.Zip
import PyProof.DictUpdate
import PyProof.Rows.TupTab
import KE.GoesEnum
import KE.DataCmp
import PyProof.ExcBaseAll.ValueError
import HandS.ExcIs
import HandS.EndOwn
import KE.KNestM
import HandS.SetFor
import KE.KDictSum
import HandS.Codes
import HandS.GenBody
import HandS.GenYield
import HandS.GenCall
import HandS.GenList
import KE.KSortKey
import HandS.SortOrd
import HandS.SortInts
import HandS.SortRule
import HandS.CallSlots
import HandS.Defaults
import HandS.MakeKwOnly
import HandS.ExcSuper
import HandS.Nested
import KE.KExcSuper
import HandS.ExcField
import HandS.Property
import HandS.ClsMeth
import HandS.OwnEq
import HandS.SlotsOwn
import PyProof.Conv_bool
import PySem.Challenge.RW_countersums_k26_whole_tallies_by_operato
set_option Elab.async false
set_option linter.all false
set_option maxRecDepth 100000
set_option maxHeartbeats 2000000
namespace Dt
open PySem PySem.Spec PyProof.Rows L2
/-- the world: texts within nested keys are hashed in it -/
class HW where
  w : World
/-- a world is the one -/
class TW [HW] (w : World) : Prop where
  eq : w = HW.w
def anyW : World := ⟨fun _ _ => 0, { strHash := fun _ => 0, shareClass := fun _ => 0, mergeTok := id, idOf := fun _ => 0, idOfShared := fun _ _ => 0, followText := fun _ => false, idOfImm := fun _ => 0 }⟩
/-- where the world is of no account -/
instance (priority := low) anyHW : HW := ⟨anyW⟩
variable [HW]
/-- plain data -/
inductive D where
  | non | bl (b : Bool) | int (i : Int) | str (s : Str)
  | tup (xs : List D) | lst (xs : List D) | dct (ks : List Key) (xs : List D) | scr (ns : List Int) | arg (xs : List D) | fn (nm : Str)
  /-- a dict with nested tuples as keys -/
  | nd (ks : List D) (xs : List D)
  /-- what lies at a, no more told of it -/
  | exn (a : Addr)
  /-- an error made as a value: its class; .. and its limit -/
  | xv (cls : Str) | xm (cls : Str) (n : Int)
  /-- an instance of the class Tally: its row -/
  | tal (d : D)
  /-- the empty tuple that is written -/
  | etup
  deriving Inhabited
/-- the tuple at a, its object told: it has no dictionary of its own -/
def TupC (F : Hp) (a : Addr) (xs : List V) : Prop := ∃ o : Obj, o.dict = none ∧ F a = some (.frz o (.tup xs))
theorem TupC.sq {K : PySem.W.Frag} {F : Hp} {a : Addr} {xs : List V} (h : TupC F a xs) : SqT K F a xs := let ⟨o, _, e⟩ := h; .inl (.inr ⟨o, e⟩)
theorem TupC.new {F : Hp} {a : Addr} {xs : List V} {o : Obj} (d : o.dict = none) : TupC (upd F a (.frz o (.tup xs))) a xs := ⟨o, d, upd_same⟩
/-- an empty tuple of the written part -/
def EtC (K : PySem.W.Frag) (a : Addr) : Prop := ∃ n sl, K.lookup a = some ⟨.type "tuple", none, .seq #[] n, sl⟩
theorem EtC.sq {K : PySem.W.Frag} {a : Addr} (h : EtC K a) (F : Hp) : SqT K F a [] := let ⟨n, _, e⟩ := h; .inr ⟨_, #[], n, e, rfl, rfl, Nat.zero_le _, .nil⟩
/-- where the def of that name lies -/
def fnA (K : PySem.W.Frag) (nm : Str) : Addr := match PySem.W.nsIn K mainGlobals nm with
  | some (some (.ref a)) => a
  | _ => 0
mutual
/-- the key that a datum is -/
def nk : D → Option NestedKey
  | .bl b => some (.num (if b = true then 1 else 0))
  | .int i => some (.num i)
  | .str x => some (.text x)
  | .tup ds => (nks ds).map .tup
  | _ => none
def nks : List D → Option (List NestedKey)
  | [] => some []
  | d :: ds => (nk d).bind fun k => (nks ds).map fun ks => k :: ks
end
/-- a tuple that is a key -/
def nkey : D → Option NestedKey
  | .tup ds => match nk (.tup ds) with
    | some k => if k.depth ≤ 8 then some k else none
    | none => none
  | _ => none
/-- what stands at p is just this object -/
def AtO (p : Addr) (ob : Obj) : HO := .ext fun h => h.get? p = some ob
/-- the object ob at p is a dict of these rows: keys, where they lie, values -/
structure NdC (p : Addr) (ob : Obj) (xs : List (NestedKey × Addr × Value)) (ks : List D) (vs : List V) : Prop where
  ns : (p == sysModules) = false
  ex : ob.ExactDict
  en : ∃ es ep, ob.data = .dict es ep ∧ ∀ P : Program, es.toList = xs.map (entryOfKey (nestedKind P HW.w))
  nod : (xs.map (·.1)).Nodup
  vals : Vals vs (xs.map fun x => x.2.2)
  keys : ks.map nkey = xs.map fun x => some x.1
/-- a dict that is data is locked for good: so it may be walked -/
def lk (o : Obj) : HO → HO
  | .dK kvs => .frz o (.dK kvs)
  | .ext φ => .frz o (.ext φ)
  | u => u
/-- what may be locked -/
def Lkb (u : HO) : Prop := (∃ xs, u = .lst xs) ∨ (∃ kvs, u = .dK kvs) ∨ (∃ φ, u = .ext φ) ∨ ∃ C dx fs, u = .ins C dx fs
mutual
/-- v stands for the data in the frozen heap F -/
inductive Rp (K : PySem.W.Frag) (F : Hp) : V → D → Prop
  | non : Rp K F .non .non
  | bl (b : Bool) : Rp K F (.bl b) (.bl b)
  | int (i : Int) : Rp K F (.int i) (.int i)
  | str (s : Str) : Rp K F (.str s) (.str s)
  | tup {a : Addr} {xs : List V} {ds : List D} : TupC F a xs → Rps K F xs ds → Rp K F (.ref a) (.tup ds)
  | arg {a : Addr} {xs : List V} {ds : List D} : SqT K F a xs → Rps K F xs ds → Rp K F (.ref a) (.arg ds)
  | lst {a : Addr} {xs : List V} {ds : List D} : F a = some (.lst xs) → Rps K F xs ds → Rp K F (.ref a) (.lst ds)
  | dct {a : Addr} {o : Obj} {kvs : List (Key × V)} {ds : List D} : F a = some (.frz o (.dK kvs)) → Rps K F (kvs.map (·.2)) ds → Rp K F (.ref a) (.dct (kvs.map (·.1)) ds)
  | scr {a : Addr} {ns : List Int} : SqL K F a (ns.map V.int) → Rp K F (.ref a) (.scr ns)
  | fn (nm : Str) : Rp K F (.ref (fnA K nm)) (.fn nm)
  | exn (a : Addr) : Rp K F (.ref a) (.exn a)
  | xv {a : Addr} (cls : Str) : F a = some (ExO (.ref (fnA K cls)) a) → Rp K F (.ref a) (.xv cls)
  | xm {a d : Addr} (cls : Str) (n : Int) : F a = some (exo a (fnA K cls) (some d)) → F d = some (exd d [("most", .int n)]) → Rp K F (.ref a) (.xm cls n)
  | tal {a dx : Addr} {v : V} {d : D} : F a = some (.ins (fnA K "Tally") dx [("row", v)]) → Rp K F v d → Rp K F (.ref a) (.tal d)
  | etup {a : Addr} : EtC K a → Rp K F (.ref a) .etup
  | nd {a : Addr} {o ob : Obj} {xs : List (NestedKey × Addr × Value)} {vs : List V} {ks ds : List D} : F a = some (.frz o (AtO a ob)) → NdC a ob xs ks vs → Rps K F (xs.map fun x => .ref x.2.1) ks → Rps K F vs ds → Rp K F (.ref a) (.nd ks ds)
inductive Rps (K : PySem.W.Frag) (F : Hp) : List V → List D → Prop
  | nil : Rps K F [] []
  | cons {v : V} {vs : List V} {d : D} {ds : List D} : Rp K F v d → Rps K F vs ds → Rps K F (v :: vs) (d :: ds)
end
def FLe (F F' : Hp) : Prop := ∀ a o, F a = some o → F' a = some o
theorem FLe.refl (F : Hp) : FLe F F := fun _ _ h => h
theorem FLe.trans {F G H : Hp} (a : FLe F G) (b : FLe G H) : FLe F H := fun c o h => b c o (a c o h)
theorem FLe.noneOf {F G : Hp} (h : FLe F G) {a : Addr} (n : G a = none) : F a = none := by
  cases e : F a with
  | none => rfl
  | some o => rw [h a o e] at n; cases n
theorem FLe.rd {F G : Hp} (h : FLe F G) {a : Addr} {u : HO} (r : Rd F a u) : Rd G a u := by
  rcases r with r | ⟨o, r⟩
  · exact .inl (h _ _ r)
  · exact .inr ⟨o, h _ _ r⟩
theorem FLe.tupC {F G : Hp} (h : FLe F G) {a : Addr} {xs : List V} (r : TupC F a xs) : TupC G a xs := let ⟨o, d, e⟩ := r; ⟨o, d, h _ _ e⟩
theorem FLe.sqT {K : PySem.W.Frag} {F G : Hp} (h : FLe F G) {a : Addr} {xs : List V} (r : SqT K F a xs) : SqT K G a xs := by
  rcases r with r | r
  · exact .inl (h.rd r)
  · exact .inr r
theorem FLe.sqL {K : PySem.W.Frag} {F G : Hp} (h : FLe F G) {a : Addr} {xs : List V} (r : SqL K F a xs) : SqL K G a xs := by
  rcases r with r | r
  · exact .inl (h.rd r)
  · exact .inr r
mutual
theorem Rp.mono {K : PySem.W.Frag} {F G : Hp} (h : FLe F G) : ∀ {v : V} {d : D}, Rp K F v d → Rp K G v d
  | _, _, .non => .non
  | _, _, .bl b => .bl b
  | _, _, .int b => .int b
  | _, _, .str b => .str b
  | _, _, .tup t r => .tup (h.tupC t) (Rps.mono h r)
  | _, _, .arg t r => .arg (h.sqT t) (Rps.mono h r)
  | _, _, .lst t r => .lst (h _ _ t) (Rps.mono h r)
  | _, _, .dct t r => .dct (h _ _ t) (Rps.mono h r)
  | _, _, .scr t => .scr (h.sqL t)
  | _, _, .fn nm => .fn nm
  | _, _, .exn a => .exn a
  | _, _, .xv c t => .xv c (h _ _ t)
  | _, _, .xm c n t u => .xm c n (h _ _ t) (h _ _ u)
  | _, _, .tal t r => .tal (h _ _ t) (Rp.mono h r)
  | _, _, .etup e => .etup e
  | _, _, .nd t c r1 r2 => .nd (h _ _ t) c (Rps.mono h r1) (Rps.mono h r2)
theorem Rps.mono {K : PySem.W.Frag} {F G : Hp} (h : FLe F G) : ∀ {vs : List V} {ds : List D}, Rps K F vs ds → Rps K G vs ds
  | _, _, .nil => .nil
  | _, _, .cons a b => .cons (Rp.mono h a) (Rps.mono h b)
end
section
variable {K : PySem.W.Frag} {F : Hp}
theorem Rps.length : ∀ {vs : List V} {ds : List D}, Rps K F vs ds → vs.length = ds.length
  | _, _, .nil => rfl
  | _, _, .cons _ b => by rw [List.length_cons, List.length_cons, Rps.length b]
theorem Rps.get : ∀ {vs : List V} {ds : List D} {i : Nat} {d : D}, Rps K F vs ds → ds[i]? = some d → ∃ v, vs[i]? = some v ∧ Rp K F v d
  | _, _, _, _, .nil, e => by simp at e
  | _, _, 0, _, .cons a _, e => by simp at e; subst e; exact ⟨_, rfl, a⟩
  | _, _, i + 1, _, .cons _ b, e => by
    obtain ⟨v, h1, h2⟩ := Rps.get (i := i) b (by simpa using e)
    exact ⟨v, by simpa using h1, h2⟩
theorem Rps.append : ∀ {vs ws : List V} {ds es : List D}, Rps K F vs ds → Rps K F ws es → Rps K F (vs ++ ws) (ds ++ es)
  | _, _, _, _, .nil, s => s
  | _, _, _, _, .cons a b, s => .cons a (b.append s)
theorem Rps.take : ∀ {vs : List V} {ds : List D} (n : Nat), Rps K F vs ds → Rps K F (vs.take n) (ds.take n)
  | _, _, 0, _ => .nil
  | _, _, _ + 1, .nil => .nil
  | _, _, n + 1, .cons a b => .cons a (b.take n)
theorem Rps.drop : ∀ {vs : List V} {ds : List D} (n : Nat), Rps K F vs ds → Rps K F (vs.drop n) (ds.drop n)
  | _, _, 0, r => r
  | _, _, _ + 1, .nil => .nil
  | _, _, n + 1, .cons _ b => b.drop n
theorem Rps.set : ∀ {vs : List V} {ds : List D} (n : Nat) {v : V} {d : D}, Rps K F vs ds → Rp K F v d → Rps K F (vs.set n v) (ds.set n d)
  | _, _, _, _, _, .nil, _ => .nil
  | _, _, 0, _, _, .cons _ b, r => .cons r b
  | _, _, n + 1, _, _, .cons a b, r => .cons a (b.set n r)
theorem Rps.reverse {vs : List V} {ds : List D} (r : Rps K F vs ds) : Rps K F vs.reverse ds.reverse := by
  induction vs generalizing ds with
  | nil => cases r; exact .nil
  | cons v vs ih =>
    cases r with
    | cons a b => rw [List.reverse_cons, List.reverse_cons]; exact (ih b).append (.cons a .nil)
theorem Rps.rep {vs : List V} {ds : List D} (r : Rps K F vs ds) : ∀ n, Rps K F (List.replicate n vs).flatten (List.replicate n ds).flatten
  | 0 => .nil
  | n + 1 => by rw [List.replicate_succ, List.replicate_succ, List.flatten_cons, List.flatten_cons]; exact r.append (r.rep n)
end
/-- a variable: nothing is known; frozen data; a list or dict that is its own; the same where it is the caller's -/
inductive Cell where
  | no | fro (d : D) | own (d : D) | io (d : D)
abbrev Env := List Cell
def Cell.held : Cell → Option D
  | .own d => some d
  | .io d => some d
  | _ => none
def Cell.data : Cell → Option D
  | .fro d => some d
  | .own d => some d
  | .io d => some d
  | .no => none
/-- its description leans on no other object, and it is no table -/
def Lone : HO → Bool
  | .tbl _ => false
  | .ins _ _ _ => true
  | .dT _ => false
  | .own _ => false
  | .frz _ u => Lone u
  | _ => true
/-- the object o holds the data, its parts in F -/
def OwnObj (K : PySem.W.Frag) (F : Hp) (p : Addr) (o : HO) : D → Prop
  | .lst ds => ∃ xs, o = .lst xs ∧ Rps K F xs ds
  | .dct ks ds => ∃ kvs, o = .dK kvs ∧ kvs.map (·.1) = ks ∧ Rps K F (kvs.map (·.2)) ds
  | .nd ks ds => ∃ ob xs vs, o = AtO p ob ∧ NdC p ob xs ks vs ∧ Rps K F (xs.map fun x => .ref x.2.1) ks ∧ Rps K F vs ds
  | .tal d => Lone o = true ∧ ∃ dx v, o = .ins (fnA K "Tally") dx [("row", v)] ∧ Rp K F v d
  | _ => False
theorem OwnObj.mono {K : PySem.W.Frag} {F G : Hp} (h : FLe F G) {p : Addr} {o : HO} {d : D} (r : OwnObj K F p o d) : OwnObj K G p o d := by
  cases d with
  | lst ds => obtain ⟨xs, e, r⟩ := r; exact ⟨xs, e, r.mono h⟩
  | dct ks ds => obtain ⟨kvs, e, e2, r⟩ := r; exact ⟨kvs, e, e2, r.mono h⟩
  | nd ks ds => obtain ⟨ob, xs, vs, e, c, r1, r2⟩ := r; exact ⟨ob, xs, vs, e, c, r1.mono h, r2.mono h⟩
  | tal d => obtain ⟨l, dx, v, e, r⟩ := r; exact ⟨l, dx, v, e, r.mono h⟩
  | _ => exact r
theorem OwnObj.rp {K : PySem.W.Frag} {F : Hp} {p : Addr} {od : Obj} {o : HO} {d : D} (r : OwnObj K F p o d) (e : F p = some (lk od o)) : Rp K F (.ref p) d := by
  cases d with
  | lst ds => obtain ⟨xs, rfl, r⟩ := r; exact .lst e r
  | dct ks ds => obtain ⟨kvs, rfl, rfl, r⟩ := r; exact .dct e r
  | nd ks ds => obtain ⟨ob, xs, vs, rfl, c, r1, r2⟩ := r; exact .nd e c r1 r2
  | tal d => obtain ⟨_, dx, v, rfl, r⟩ := r; exact .tal e r
  | _ => exact r.elim
theorem OwnObj.lkb {K : PySem.W.Frag} {F : Hp} {p : Addr} {o : HO} {d : D} (r : OwnObj K F p o d) : Lkb o := by
  cases d with
  | lst ds => obtain ⟨xs, rfl, r⟩ := r; exact .inl ⟨_, rfl⟩
  | dct ks ds => obtain ⟨kvs, rfl, rfl, r⟩ := r; exact .inr (.inl ⟨_, rfl⟩)
  | nd ks ds => obtain ⟨ob, xs, vs, rfl, _⟩ := r; exact .inr (.inr (.inl ⟨_, rfl⟩))
  | tal d => obtain ⟨_, dx, v, rfl, _⟩ := r; exact .inr (.inr (.inr ⟨_, _, _, rfl⟩))
  | _ => exact r.elim
theorem lk_lst {od : Obj} {xs : List V} : lk od (.lst xs) = .lst xs := rfl
theorem lk_ins {od : Obj} {C dx : Addr} {fs : List (Str × V)} : lk od (.ins C dx fs) = .ins C dx fs := rfl
/-- the object at p is the variable's own -/
structure OwnAt (K : PySem.W.Frag) (F R H : Hp) (p : Addr) (d : D) : Prop where
  nF : F p = none
  nR : R p = none
  at_ : ∃ o, H p = some o ∧ OwnObj K F p o d
def CellOk (K : PySem.W.Frag) (F R H : Hp) (v : Option V) : Cell → Prop
  | .no => True
  | .fro d => ∃ x, v = some x ∧ Rp K F x d
  | .own d => ∃ p, v = some (.ref p) ∧ OwnAt K F R H p d
  | .io d => ∃ p, v = some (.ref p) ∧ OwnAt K F R H p d
/-- the slots whose objects are the caller's; the tables of code objects, the name that their entries bear -/
structure Io (T : List (Addr × Str)) where
  l : List (Nat × Addr) := []
/-- no table is among these, each stands for itself -/
def NoTb (F : Hp) : Prop := ∀ a u, F a = some u → Lone u = true
theorem NoTb.tb {F : Hp} (h : NoTb F) : ∀ a ps, F a ≠ some (.tbl ps) := fun a ps z => nomatch h a _ z
theorem NoTb.upd {F : Hp} (h : NoTb F) {p : Addr} {o : HO} (n : Lone o = true) : NoTb (L2.upd F p o) := fun a u z => by
  by_cases e : a = p
  · subst e; rw [upd_same] at z; cases z; exact n
  · rw [upd_ne e] at z; exact h a u z
/-- no table is among these -/
def NoT (F : Hp) : Prop := ∀ a ps, F a ≠ some (.tbl ps)
theorem NoT.upd {F : Hp} (h : NoT F) {p : Addr} {o : HO} (n : ∀ ps, o ≠ .tbl ps) : NoT (L2.upd F p o) := fun a ps z => by
  by_cases e : a = p
  · subst e; rw [upd_same] at z; exact n ps (Option.some.inj z)
  · rw [upd_ne e] at z; exact h a ps z
theorem OwnObj.lone {K : PySem.W.Frag} {F : Hp} {p : Addr} {o : HO} {d : D} (r : OwnObj K F p o d) (od : Obj) : Lone o = true ∧ Lone (lk od o) = true := by
  cases d with
  | lst ds => obtain ⟨xs, rfl, r⟩ := r; exact ⟨rfl, rfl⟩
  | dct ks ds => obtain ⟨kvs, rfl, _, r⟩ := r; exact ⟨rfl, rfl⟩
  | nd ks ds => obtain ⟨ob, xs, vs, rfl, _⟩ := r; exact ⟨rfl, rfl⟩
  | tal d => obtain ⟨l, dx, v, rfl, _⟩ := r; exact ⟨l, l⟩
  | _ => exact r.elim
theorem OwnObj.nt {K : PySem.W.Frag} {F : Hp} {p : Addr} {o : HO} {d : D} (r : OwnObj K F p o d) (od : Obj) : (∀ ps, o ≠ .tbl ps) ∧ ∀ ps, lk od o ≠ .tbl ps := by
  cases d with
  | lst ds => obtain ⟨xs, rfl, r⟩ := r; exact ⟨(fun ps z => nomatch z), fun ps z => nomatch z⟩
  | dct ks ds => obtain ⟨kvs, rfl, _, r⟩ := r; exact ⟨(fun ps z => nomatch z), fun ps z => nomatch z⟩
  | nd ks ds => obtain ⟨ob, xs, vs, rfl, _⟩ := r; exact ⟨(fun ps z => nomatch z), fun ps z => nomatch z⟩
  | tal d => obtain ⟨l, dx, v, rfl, _⟩ := r; exact ⟨(fun ps z => nomatch z), fun ps z => nomatch z⟩
  | _ => exact r.elim
theorem heap_size : ∀ n : Nat, ∃ h : Heap, h.objs.size = n
  | 0 => ⟨{}, rfl⟩
  | n + 1 => let ⟨h, e⟩ := heap_size n; ⟨h.push { cls := .none, data := .plain }, by rw [Heap.size_push, e]⟩
theorem atO_ne {p : Addr} {ob : Obj} {q : Str} (nf : ∀ vs, ob.data ≠ .fields vs) : AtO p ob ≠ LamX.CodeO p q := fun z => by
  unfold AtO LamX.CodeO at z
  obtain ⟨h, e⟩ := heap_size p
  have g : (h.push { cls := .none, data := .fields #[.none, .str q 0] }).get? p = some { cls := .none, data := .fields #[.none, .str q 0] } := by
    rw [← e]; exact Heap.get?_push_size _ rfl
  have k := congrFun (HO.ext.inj z) (h.push { cls := .none, data := .fields #[.none, .str q 0] })
  have y := (iff_of_eq k).mpr ⟨_, _, 0, g, rfl, rfl⟩
  rw [g] at y
  cases y
  exact nf _ rfl
/-- neither a table nor a code object that tables tell -/
def NoX (R : Hp) : Prop := NoT R ∧ ∀ a q, R a ≠ some (LamX.CodeO a q)
theorem NoX.upd {R : Hp} (h : NoX R) {p : Addr} {o : HO} (n : ∀ ps, o ≠ .tbl ps) (n2 : ∀ q, o ≠ LamX.CodeO p q) : NoX (L2.upd R p o) := ⟨h.1.upd n, fun a φ z => by
  by_cases e : a = p
  · subst e; rw [upd_same] at z; exact n2 φ (Option.some.inj z)
  · rw [upd_ne e] at z; exact h.2 a φ z⟩
theorem OwnObj.nx {K : PySem.W.Frag} {F : Hp} {p : Addr} {o : HO} {d : D} (r : OwnObj K F p o d) (q : Str) : o ≠ LamX.CodeO p q := by
  cases d with
  | lst ds => obtain ⟨xs, rfl, r⟩ := r; unfold LamX.CodeO; exact fun z => nomatch z
  | dct ks ds => obtain ⟨kvs, rfl, _, r⟩ := r; unfold LamX.CodeO; exact fun z => nomatch z
  | nd ks ds => obtain ⟨ob, xs, vs, rfl, c, _⟩ := r; exact atO_ne fun vs z => by obtain ⟨es, ep, e, _⟩ := c.en; rw [e] at z; cases z
  | tal d => obtain ⟨_, dx, v, rfl, _⟩ := r; unfold LamX.CodeO; exact fun z => nomatch z
  | _ => exact r.elim
/-- a table: it is nobody's; the code objects that it tells are known for good -/
def TabOk (F R H : Hp) (t : Addr × Str) : Prop := F t.1 = none ∧ R t.1 = none ∧ NoX R ∧ ∃ ps : Array Value, H t.1 = some (.tbl ps) ∧ TriplesOk ps.toList ∧ ∀ (pos : Pos) (cv : Value), codeAmong pos ps.toList = some cv → ∃ c, cv = .ref c ∧ F c = some (LamX.CodeO c t.2)
theorem TabOk.mv {F R H F' R' H' : Hp} {t : Addr × Str} (h : TabOk F R H t) (hF : F' t.1 = none) (hR : R' t.1 = none) (hH : ∀ ps, H t.1 = some (.tbl ps) → H' t.1 = some (.tbl ps)) (le : FLe F F') (nR : NoX R') : TabOk F' R' H' t := by
  obtain ⟨_, _, _, ps, e, tr, k⟩ := h
  exact ⟨hF, hR, nR, ps, hH ps e, tr, fun pos cv z => let ⟨c, e1, e2⟩ := k pos cv z; ⟨c, e1, le _ _ e2⟩⟩
theorem own_ne {K : PySem.W.Frag} {F R H : Hp} {p P : Addr} {d : D} {ps : Array Value} (w : OwnAt K F R H p d) (e : H P = some (.tbl ps)) : P ≠ p := fun z => by
  subst z
  obtain ⟨o, e1, h⟩ := w.at_
  rw [e] at e1
  cases e1
  cases d with
  | lst ds => obtain ⟨_, z, _⟩ := h; cases z
  | dct ks ds => obtain ⟨_, z, _, _⟩ := h; cases z
  | nd ks ds => obtain ⟨_, _, _, z, _⟩ := h; cases z
  | tal d => obtain ⟨_, _, _, z, _⟩ := h; cases z
  | _ => exact h
theorem TabOk.tbl {F R H : Hp} {t : Addr × Str} (h : TabOk F R H t) : ∃ ps, H t.1 = some (.tbl ps) := let ⟨_, _, _, ps, e, _⟩ := h; ⟨ps, e⟩
theorem TabOk.nR {F R H : Hp} {t : Addr × Str} (h : TabOk F R H t) : NoX R := h.2.2.1
/-- ρ tells of the slots σ and the heap H. F: what is frozen; R: what others keep; io: the slots whose objects are the caller's -/
structure Rel {T : List (Addr × Str)} (K : PySem.W.Frag) (io : Io T) (R : Hp) (ρ : Env) (F : Hp) (σ : L2.St) (H : Hp) : Prop where
  fH : FLe F H
  rH : FLe R H
  dj : ∀ a o, F a = some o → R a = none
  len : ρ.length = σ.length
  cell : ∀ (i : Nat) (c : Cell) (v : Option V), ρ[i]? = some c → σ[i]? = some v → CellOk K F R H v c
  inj : ∀ (i j : Nat) (ci cj : Cell) (di dj : D) (p : Addr), ρ[i]? = some ci → ρ[j]? = some cj → ci.held = some di → cj.held = some dj → σ[i]? = some (some (.ref p)) → σ[j]? = some (some (.ref p)) → i = j
  ios : ∀ ip ∈ io.l, (∃ d, ρ[ip.1]? = some (.io d)) ∧ σ[ip.1]? = some (some (.ref ip.2))
  ioc : ∀ (i : Nat) (d : D), ρ[i]? = some (.io d) → ∃ p, (i, p) ∈ io.l
  tab : ∀ t ∈ T, TabOk F R H t
  nt : NoTb F
section
variable {T : List (Addr × Str)} {K : PySem.W.Frag} {io : Io T} {R : Hp} {ρ : Env} {F F' : Hp} {σ : L2.St} {H H' : Hp}
theorem Rel.slot (r : Rel K io R ρ F σ H) {i : Nat} {c : Cell} (e : ρ[i]? = some c) : ∃ v, σ[i]? = some v ∧ CellOk K F R H v c := by
  have h := (List.getElem?_eq_some_iff.mp e).1
  have h2 : i < σ.length := by rw [← r.len]; exact h
  exact ⟨σ[i], by simp [h2], r.cell i c _ e (by simp [h2])⟩
theorem Rel.heldAt (r : Rel K io R ρ F σ H) {i : Nat} {c : Cell} {d : D} (e : ρ[i]? = some c) (h : c.held = some d) : ∃ p, σ[i]? = some (some (.ref p)) ∧ OwnAt K F R H p d := by
  obtain ⟨v, e1, q⟩ := r.slot e
  cases c with
  | no => cases h
  | fro _ => cases h
  | own d' => cases h; obtain ⟨p, rfl, q⟩ := q; exact ⟨p, e1, q⟩
  | io d' => cases h; obtain ⟨p, rfl, q⟩ := q; exact ⟨p, e1, q⟩
/-- the heap has more, what is frozen has more: none of it was there -/
theorem Rel.grow (r : Rel K io R ρ F σ H) (hF : FLe F F') (hH : FLe H H') (hFH : FLe F' H') (new : ∀ a o, F' a = some o → F a = some o ∨ H a = none) (nt : NoTb F') : Rel K io R ρ F' σ H' := by
  have own : ∀ {p d}, OwnAt K F R H p d → OwnAt K F' R H' p d := fun {p d} q => by
    obtain ⟨o, e, q3⟩ := q.at_
    refine ⟨?_, q.nR, o, hH _ _ e, q3.mono hF⟩
    cases e' : F' p with
    | none => rfl
    | some o' =>
      rcases new p o' e' with z | z
      · rw [q.nF] at z; cases z
      · rw [e] at z; cases z
  refine ⟨hFH, r.rH.trans hH, fun a o e => ?_, r.len, fun i c v e1 e2 => ?_, r.inj, r.ios, r.ioc, (fun t ht => ?_), nt⟩
  · rcases new a o e with z | z
    · exact r.dj a o z
    · exact r.rH.noneOf z
  · have q := r.cell i c v e1 e2
    cases c with
    | no => trivial
    | fro d => obtain ⟨x, e, q⟩ := q; exact ⟨x, e, q.mono hF⟩
    | own d => obtain ⟨p, e, q⟩ := q; exact ⟨p, e, own q⟩
    | io d => obtain ⟨p, e, q⟩ := q; exact ⟨p, e, own q⟩
  · have q := r.tab t ht
    obtain ⟨ps, ep⟩ := q.tbl
    refine q.mv ?_ q.2.1 (fun ps e => hH _ _ e) hF q.nR
    cases e' : F' t.1 with
    | none => rfl
    | some o' =>
      rcases new _ _ e' with z | z
      · rw [q.1] at z; cases z
      · rw [ep] at z; cases z
/-- a new frozen object -/
theorem Rel.new (r : Rel K io R ρ F σ H) {p : Addr} (n : H p = none) (o : HO) (no : Lone o = true := by rfl) : Rel K io R ρ (upd F p o) σ (upd H p o) := by
  refine r.grow (fun a u e => ?_) (fun a u e => ?_) (fun a u e => ?_) (fun a u e => ?_) (r.nt.upd no)
  · rw [upd_ne (ne_of_none (r.fH a u e) n)]; exact e
  · rw [upd_ne (ne_of_none e n)]; exact e
  · by_cases h : a = p
    · subst h; rw [upd_same] at e ⊢; exact e
    · rw [upd_ne h] at e ⊢; exact r.fH a u e
  · by_cases h : a = p
    · subst h; exact .inr n
    · rw [upd_ne h] at e; exact .inl e
theorem FLe.upd {F : Hp} {p : Addr} (o : HO) (n : F p = none) : FLe F (upd F p o) := fun a u e => by
  rw [upd_ne (ne_of_none e n)]; exact e
/-- a new object that nobody holds -/
theorem Rel.newH (r : Rel K io R ρ F σ H) {p : Addr} (n : H p = none) (o : HO) : Rel K io R ρ F σ (L2.upd H p o) :=
  r.grow (FLe.refl F) (FLe.upd o n) (r.fH.trans (FLe.upd o n)) (fun a u e => .inl e) r.nt
/-- a variable takes frozen data -/
theorem Rel.setFro (r : Rel K io R ρ F σ H) {i : Nat} {v : V} {d : D} (h : Rp K F v d) (hi : ∀ e, ρ[i]? ≠ some (Cell.io e)) : Rel K io R (ρ.set i (.fro d)) F (σ.set i (some v)) H := by
  refine ⟨r.fH, r.rH, r.dj, by rw [List.length_set, List.length_set]; exact r.len, fun j c w e1 e2 => ?_, fun j k cj ck dj dk p h1 h2 h3 h4 h5 h6 => ?_, fun ip hip => ?_, (fun j d' e => ?_), r.tab, r.nt⟩
  · rw [List.getElem?_set] at e1 e2
    by_cases hj : i = j
    · rw [if_pos hj] at e1 e2
      split at e1
      · cases e1
        split at e2
        · cases e2; exact ⟨v, rfl, h⟩
        · cases e2
      · cases e1
    · rw [if_neg hj] at e1 e2; exact r.cell j c w e1 e2
  · have ne : ∀ {j : Nat} {cj : Cell} {dj : D}, (ρ.set i (.fro d))[j]? = some cj → cj.held = some dj → i ≠ j ∧ ρ[j]? = some cj := fun {j cj dj} e1 e2 => by
      rw [List.getElem?_set] at e1
      by_cases hj : i = j
      · rw [if_pos hj] at e1
        split at e1
        · cases e1; cases e2
        · cases e1
      · rw [if_neg hj] at e1; exact ⟨hj, e1⟩
    obtain ⟨n1, g1⟩ := ne h1 h3
    obtain ⟨n2, g2⟩ := ne h2 h4
    rw [List.getElem?_set_ne n1] at h5
    rw [List.getElem?_set_ne n2] at h6
    exact r.inj j k cj ck dj dk p g1 g2 h3 h4 h5 h6
  · obtain ⟨⟨d', e1⟩, e2⟩ := r.ios ip hip
    have hn : i ≠ ip.1 := fun e => by subst e; exact hi d' e1
    exact ⟨⟨d', by rw [List.getElem?_set_ne hn]; exact e1⟩, by rw [List.getElem?_set_ne hn]; exact e2⟩
  · rw [List.getElem?_set] at e
    split at e
    · split at e <;> cases e
    · exact r.ioc j d' e
/-- nothing more is known of a variable -/
theorem Rel.forget (r : Rel K io R ρ F σ H) {i : Nat} (o : Option V) (hi : ∀ e, ρ[i]? ≠ some (Cell.io e)) : Rel K io R (ρ.set i .no) F (σ.set i o) H := by
  refine ⟨r.fH, r.rH, r.dj, by rw [List.length_set, List.length_set]; exact r.len, fun j c w e1 e2 => ?_, fun j k cj ck dj dk p h1 h2 h3 h4 h5 h6 => ?_, fun ip hip => ?_, (fun j d' e => ?_), r.tab, r.nt⟩
  · rw [List.getElem?_set] at e1 e2
    by_cases hj : i = j
    · rw [if_pos hj] at e1
      split at e1
      · cases e1; trivial
      · cases e1
    · rw [if_neg hj] at e1 e2; exact r.cell j c w e1 e2
  · have ne : ∀ {j : Nat} {cj : Cell} {dj : D}, (ρ.set i .no)[j]? = some cj → cj.held = some dj → i ≠ j ∧ ρ[j]? = some cj := fun {j cj dj} e1 e2 => by
      rw [List.getElem?_set] at e1
      by_cases hj : i = j
      · rw [if_pos hj] at e1
        split at e1
        · cases e1; cases e2
        · cases e1
      · rw [if_neg hj] at e1; exact ⟨hj, e1⟩
    obtain ⟨n1, g1⟩ := ne h1 h3
    obtain ⟨n2, g2⟩ := ne h2 h4
    rw [List.getElem?_set_ne n1] at h5
    rw [List.getElem?_set_ne n2] at h6
    exact r.inj j k cj ck dj dk p g1 g2 h3 h4 h5 h6
  · obtain ⟨⟨d', e1⟩, e2⟩ := r.ios ip hip
    have hn : i ≠ ip.1 := fun e => by subst e; exact hi d' e1
    exact ⟨⟨d', by rw [List.getElem?_set_ne hn]; exact e1⟩, by rw [List.getElem?_set_ne hn]; exact e2⟩
  · rw [List.getElem?_set] at e
    split at e
    · split at e <;> cases e
    · exact r.ioc j d' e
/-- no variable holds p -/
def Loose (ρ : Env) (σ : L2.St) (p : Addr) : Prop := ∀ (i : Nat) (c : Cell) (d : D), ρ[i]? = some c → c.held = some d → σ[i]? ≠ some (some (.ref p))
theorem Rel.loose (r : Rel K io R ρ F σ H) {p : Addr} (n : H p = none) : Loose ρ σ p := fun i c d e1 e2 e3 => by
  obtain ⟨q, e4, w⟩ := r.heldAt e1 e2
  rw [e3] at e4; cases e4
  obtain ⟨o, e, _⟩ := w.at_
  rw [n] at e; cases e
/-- a variable takes an object that nobody holds -/
theorem Rel.setOwn (r : Rel K io R ρ F σ H) {i : Nat} {p : Addr} {d : D} (h : OwnAt K F R H p d) (lo : Loose ρ σ p) (hi : ∀ e, ρ[i]? ≠ some (Cell.io e)) : Rel K io R (ρ.set i (.own d)) F (σ.set i (some (.ref p))) H := by
  refine ⟨r.fH, r.rH, r.dj, by rw [List.length_set, List.length_set]; exact r.len, fun j c w e1 e2 => ?_, fun j k cj ck dj dk q h1 h2 h3 h4 h5 h6 => ?_, fun ip hip => ?_, (fun j d' e => ?_), r.tab, r.nt⟩
  · rw [List.getElem?_set] at e1 e2
    by_cases hj : i = j
    · rw [if_pos hj] at e1 e2
      split at e1
      · cases e1
        split at e2
        · cases e2; exact ⟨p, rfl, h⟩
        · cases e2
      · cases e1
    · rw [if_neg hj] at e1 e2; exact r.cell j c w e1 e2
  · rw [List.getElem?_set] at h1 h2 h5 h6
    by_cases hj : i = j
    · by_cases hk : i = k
      · exact hj.symm.trans hk
      · rw [if_neg hk] at h2 h6
        rw [if_pos hj] at h5
        split at h5
        · have z : V.ref p = V.ref q := Option.some.inj (Option.some.inj h5)
          cases z
          exact absurd h6 (lo k ck dk h2 h4)
        · cases h5
    · rw [if_neg hj] at h1 h5
      by_cases hk : i = k
      · rw [if_pos hk] at h6
        split at h6
        · have z : V.ref p = V.ref q := Option.some.inj (Option.some.inj h6)
          cases z
          exact absurd h5 (lo j cj dj h1 h3)
        · cases h6
      · rw [if_neg hk] at h2 h6
        exact r.inj j k cj ck dj dk q h1 h2 h3 h4 h5 h6
  · obtain ⟨⟨d', e1⟩, e2⟩ := r.ios ip hip
    have hn : i ≠ ip.1 := fun e => by subst e; exact hi d' e1
    exact ⟨⟨d', by rw [List.getElem?_set_ne hn]; exact e1⟩, by rw [List.getElem?_set_ne hn]; exact e2⟩
  · rw [List.getElem?_set] at e
    split at e
    · split at e <;> cases e
    · exact r.ioc j d' e
/-- the object of a variable is changed -/
def Cell.put (c : Cell) (d : D) : Cell := match c with
  | .own _ => .own d
  | .io _ => .io d
  | c => c
theorem Rel.write (r : Rel K io R ρ F σ H) {i : Nat} {c : Cell} {d0 d : D} {p : Addr} {o : HO} (hc : ρ[i]? = some c) (hh : c.held = some d0) (hp : σ[i]? = some (some (.ref p))) (ho : OwnObj K F p o d) :
    Rel K io R (ρ.set i (c.put d)) F σ (L2.upd H p o) := by
  obtain ⟨p', e1, w⟩ := r.heldAt hc hh
  rw [hp] at e1; cases e1
  have hil : i < ρ.length := (List.getElem?_eq_some_iff.mp hc).1
  have nF : ∀ a u, F a = some u → a ≠ p := fun a u e z => by subst z; rw [w.nF] at e; cases e
  have nR : ∀ a u, R a = some u → a ≠ p := fun a u e z => by subst z; rw [w.nR] at e; cases e
  have hp2 : (c.put d).held = some d := by cases c <;> first | rfl | cases hh
  refine ⟨fun a u e => by rw [upd_ne (nF a u e)]; exact r.fH a u e, fun a u e => by rw [upd_ne (nR a u e)]; exact r.rH a u e, r.dj, by rw [List.length_set]; exact r.len, fun j cj v e1 e2 => ?_, fun j k cj ck dj dk q h1 h2 h3 h4 h5 h6 => ?_, fun ip hip => ?_, fun j d' e => ?_, fun t ht => let q := r.tab t ht; q.mv q.1 q.2.1 (fun ps e => by rw [upd_ne (own_ne w e)]; exact e) (FLe.refl F) q.nR, r.nt⟩
  · by_cases hj : i = j
    · subst hj
      rw [List.getElem?_set_self hil] at e1
      cases e1
      rw [hp] at e2; cases e2
      have own : OwnAt K F R (L2.upd H p o) p d := ⟨w.nF, w.nR, o, upd_same, ho⟩
      cases c with
      | no => cases hh
      | fro _ => cases hh
      | own _ => exact ⟨p, rfl, own⟩
      | io _ => exact ⟨p, rfl, own⟩
    · rw [List.getElem?_set_ne hj] at e1
      have q := r.cell j cj v e1 e2
      have keep : ∀ {dj p'}, cj.held = some dj → v = some (.ref p') → OwnAt K F R H p' dj → OwnAt K F R (L2.upd H p o) p' dj := fun {dj p'} h3 h4 q => by
        obtain ⟨o', e, q3⟩ := q.at_
        refine ⟨q.nF, q.nR, o', ?_, q3⟩
        rw [upd_ne]
        · exact e
        · intro z
          subst z
          rw [h4] at e2
          exact hj (r.inj i j c cj d0 dj p' hc e1 hh h3 hp e2)
      cases cj with
      | no => trivial
      | fro _ => exact q
      | own dj => obtain ⟨p', e, q⟩ := q; exact ⟨p', e, keep rfl e q⟩
      | io dj => obtain ⟨p', e, q⟩ := q; exact ⟨p', e, keep rfl e q⟩
  · have old : ∀ {j : Nat} {cj : Cell} {dj : D}, (ρ.set i (c.put d))[j]? = some cj → cj.held = some dj → ∃ cj' dj', ρ[j]? = some cj' ∧ cj'.held = some dj' := fun {j cj dj} e1 e2 => by
      by_cases hj : i = j
      · subst hj; exact ⟨c, d0, hc, hh⟩
      · rw [List.getElem?_set_ne hj] at e1; exact ⟨cj, dj, e1, e2⟩
    obtain ⟨_, _, g1, g2⟩ := old h1 h3
    obtain ⟨_, _, g3, g4⟩ := old h2 h4
    exact r.inj j k _ _ _ _ q g1 g3 g2 g4 h5 h6
  · obtain ⟨⟨d', e1⟩, e2⟩ := r.ios ip hip
    refine ⟨?_, e2⟩
    by_cases hj : i = ip.1
    · subst hj
      rw [hc] at e1; cases e1
      exact ⟨d, by rw [List.getElem?_set_self hil]; rfl⟩
    · exact ⟨d', by rw [List.getElem?_set_ne hj]; exact e1⟩
  · by_cases hj : i = j
    · subst hj
      rw [List.getElem?_set_self hil] at e
      cases c with
      | no => cases hh
      | fro _ => cases hh
      | own _ => cases e
      | io d'' => exact r.ioc i d'' hc
    · rw [List.getElem?_set_ne hj] at e; exact r.ioc j d' e
/-- a variable's own object is frozen -/
theorem Rel.freeze (r : Rel K io R ρ F σ H) {i : Nat} {d : D} {p : Addr} {o : HO} (hc : ρ[i]? = some (.own d)) (hp : σ[i]? = some (some (.ref p))) (ho : H p = some o) (hr : OwnObj K F p o d) (od : Obj) :
    FLe F (L2.upd F p (lk od o)) ∧ Rel K io R (ρ.set i (.fro d)) (L2.upd F p (lk od o)) σ (L2.upd H p (lk od o)) ∧ Rp K (L2.upd F p (lk od o)) (.ref p) d := by
  obtain ⟨p', e1, w⟩ := r.heldAt hc rfl
  rw [hp] at e1; cases e1
  have hil : i < ρ.length := (List.getElem?_eq_some_iff.mp hc).1
  have le : FLe F (L2.upd F p (lk od o)) := FLe.upd _ w.nF
  have rp : Rp K (L2.upd F p (lk od o)) (.ref p) d := (hr.mono le).rp upd_same
  have nR : ∀ a u, R a = some u → a ≠ p := fun a u e z => by subst z; rw [w.nR] at e; cases e
  refine ⟨le, ⟨fun a u e => ?_, fun a u e => by rw [upd_ne (nR a u e)]; exact r.rH a u e, fun a u e => ?_, by rw [List.length_set]; exact r.len, fun j cj v e1 e2 => ?_, fun j k cj ck dj dk q h1 h2 h3 h4 h5 h6 => ?_, fun ip hip => ?_, fun j d' e => ?_, fun t ht => let q := r.tab t ht; let ⟨ps, ep⟩ := q.tbl; q.mv (by rw [upd_ne (own_ne w ep)]; exact q.1) q.2.1 (fun ps e => by rw [upd_ne (own_ne w e)]; exact e) le q.nR, r.nt.upd (hr.lone od).2⟩, rp⟩
  · by_cases h : a = p
    · subst h; rw [upd_same] at e; cases e; exact upd_same
    · rw [upd_ne h] at e; rw [upd_ne h]; exact r.fH a u e
  · by_cases h : a = p
    · subst h; exact w.nR
    · rw [upd_ne h] at e; exact r.dj a u e
  · by_cases hj : i = j
    · subst hj
      rw [List.getElem?_set_self hil] at e1
      cases e1
      rw [hp] at e2; cases e2
      exact ⟨_, rfl, rp⟩
    · rw [List.getElem?_set_ne hj] at e1
      have q := r.cell j cj v e1 e2
      have keep : ∀ {dj p'}, cj.held = some dj → v = some (.ref p') → OwnAt K F R H p' dj → OwnAt K (L2.upd F p (lk od o)) R (L2.upd H p (lk od o)) p' dj := fun {dj p'} h3 h4 q => by
        obtain ⟨o', e, q3⟩ := q.at_
        have ne : p' ≠ p := by
          intro z
          subst z
          rw [h4] at e2
          exact hj (r.inj i j _ cj d dj p' hc e1 rfl h3 hp e2)
        exact ⟨by rw [upd_ne ne]; exact q.nF, q.nR, o', by rw [upd_ne ne]; exact e, q3.mono le⟩
      cases cj with
      | no => trivial
      | fro _ => obtain ⟨x, e, q⟩ := q; exact ⟨x, e, q.mono le⟩
      | own dj => obtain ⟨p', e, q⟩ := q; exact ⟨p', e, keep rfl e q⟩
      | io dj => obtain ⟨p', e, q⟩ := q; exact ⟨p', e, keep rfl e q⟩
  · have old : ∀ {j : Nat} {cj : Cell} {dj : D}, (ρ.set i (.fro d))[j]? = some cj → cj.held = some dj → ρ[j]? = some cj := fun {j cj dj} e1 e2 => by
      by_cases hj : i = j
      · subst hj
        rw [List.getElem?_set_self hil] at e1
        cases e1; cases e2
      · rw [List.getElem?_set_ne hj] at e1; exact e1
    exact r.inj j k cj ck dj dk q (old h1 h3) (old h2 h4) h3 h4 h5 h6
  · obtain ⟨⟨d', e1⟩, e2⟩ := r.ios ip hip
    have hn : i ≠ ip.1 := fun e => by subst e; rw [hc] at e1; cases e1
    exact ⟨⟨d', by rw [List.getElem?_set_ne hn]; exact e1⟩, e2⟩
  · by_cases hj : i = j
    · subst hj
      rw [List.getElem?_set_self hil] at e
      cases e
    · rw [List.getElem?_set_ne hj] at e; exact r.ioc j d' e
end
end Dt
set_option Elab.async false
set_option linter.all false
set_option maxRecDepth 100000
set_option maxHeartbeats 2000000
namespace Dt
open PySem PySem.Spec PyProof.Rows L2
variable [HW]
/-- an exception: the name of its class, what it bears -/
structure Exn where
  cls : String
  arg : D := .non
/-- a value with the environment behind it; an exception; anything that is not told -/
inductive R (α : Type) where
  | ok (a : α) (ρ : Env) | exc (x : Exn) (ρ : Env) | stuck
def R.bind {α β : Type} (r : R α) (f : α → Env → R β) : R β := match r with
  | .ok a ρ => f a ρ
  | .exc x ρ => .exc x ρ
  | .stuck => .stuck
@[simp] theorem R.bind_ok {α β : Type} {a : α} {ρ : Env} {f : α → Env → R β} : (R.ok a ρ).bind f = f a ρ := rfl
@[simp] theorem R.bind_exc {α β : Type} {x : Exn} {ρ : Env} {f : α → Env → R β} : (R.exc x ρ).bind f = .exc x ρ := rfl
@[simp] theorem R.bind_stuck {α β : Type} {f : α → Env → R β} : (R.stuck : R α).bind f = .stuck := rfl
/-- a def's end: its value and what it left in the lists that it was lent -/
inductive FR where
  | ok (d : D) (outs : List D) | exc (x : Exn) | stuck
abbrev SE := Env → R D
abbrev ST := Env → R Bool
abbrev SA := Env → R (List D)
inductive Fl where
  | nx | rt (d : D) | bk | ct
abbrev SS := Env → R Fl
abbrev SG := D → Env → R Unit
/-- an operand that is only looked at: a value, or a variable -/
inductive Opd where
  | val (d : D) | loc (i : Nat)
def Opd.get (ρ : Env) : Opd → Option D
  | .val d => some d
  | .loc i => (ρ[i]?).bind Cell.data
abbrev SO := Env → R Opd
abbrev SB := Env → R (List Opd)
/-- where the exception classes stand; the tables of code objects that may be written, the name that their entries bear -/
structure Exx where
  at_ : String → Addr
  tabs : List (Addr × Str)
/-- the context of a law: the written part, the above -/
structure Gx where
  K : PySem.W.Frag
  ex : Exx
def XR (G : Gx) (F : Hp) (x : Exn) (cls : Value) (dd : Option Addr) (H : Hp) : Prop :=
  cls = .ref (G.ex.at_ x.cls) ∧ match x.arg with
    | .non => dd = none
    | d => ∃ p v, dd = some p ∧ F p = none ∧ H p = some (.xd [("most", v)]) ∧ Rp G.K F v d
def XPost {T : List (Addr × Str)} (G : Gx) (W : WX) (io : Io T) (Rv : Hp) (F : Hp) (ρ : Env) (x : Exn) : Prop :=
  ∀ cls dd σ' H' F', FLe F F' → Rel G.K io Rv ρ F' σ' H' → XR G F' x cls dd H' → W cls dd σ' H'
def EPost {T : List (Addr × Str)} (G : Gx) (io : Io T) (Rv : Hp) (F : Hp) (σ : L2.St) (ρ : Env) (d : D) (Q : VK) : Prop :=
  ∀ v H' F', FLe F F' → Rel G.K io Rv ρ F' σ H' → Rp G.K F' v d → Q v H'
def OpdOk (K : PySem.W.Frag) (F : Hp) (σ : L2.St) (v : V) : Opd → Prop
  | .val d => Rp K F v d
  | .loc i => σ[i]? = some (some v)
inductive OpdsOk (K : PySem.W.Frag) (F : Hp) (σ : L2.St) : List V → List Opd → Prop
  | nil : OpdsOk K F σ [] []
  | cons {v : V} {vs : List V} {o : Opd} {os : List Opd} : OpdOk K F σ v o → OpdsOk K F σ vs os → OpdsOk K F σ (v :: vs) (o :: os)
theorem OpdOk.mono {K : PySem.W.Frag} {F G : Hp} (h : FLe F G) {σ : L2.St} {v : V} {o : Opd} (r : OpdOk K F σ v o) : OpdOk K G σ v o := by
  cases o with
  | val d => exact Rp.mono h r
  | loc i => exact r
def tE (G : Gx) (W : WX) (s : SE) : TE := fun σ H Q => ∃ ρ F Rv, ∃ io : Io G.ex.tabs, Rel G.K io Rv ρ F σ H ∧ match s ρ with
  | .ok d ρ' => EPost G io Rv F σ ρ' d Q
  | .exc x ρ' => XPost G W io Rv F ρ' x
  | .stuck => False
def tT (G : Gx) (W : WX) (s : ST) : TT := fun σ H Q => ∃ ρ F Rv, ∃ io : Io G.ex.tabs, Rel G.K io Rv ρ F σ H ∧ match s ρ with
  | .ok b ρ' => ∀ H' F', FLe F F' → Rel G.K io Rv ρ' F' σ H' → Q b H'
  | .exc x ρ' => XPost G W io Rv F ρ' x
  | .stuck => False
def tA (G : Gx) (W : WX) (s : SA) : TA := fun σ H Q => ∃ ρ F Rv, ∃ io : Io G.ex.tabs, Rel G.K io Rv ρ F σ H ∧ match s ρ with
  | .ok ds ρ' => ∀ vs H' F', FLe F F' → Rel G.K io Rv ρ' F' σ H' → Rps G.K F' vs ds → Q vs H'
  | .exc x ρ' => XPost G W io Rv F ρ' x
  | .stuck => False
def tO (G : Gx) (W : WX) (s : SO) : TE := fun σ H Q => ∃ ρ F Rv, ∃ io : Io G.ex.tabs, Rel G.K io Rv ρ F σ H ∧ match s ρ with
  | .ok o ρ' => ∀ v H' F', FLe F F' → Rel G.K io Rv ρ' F' σ H' → OpdOk G.K F' σ v o → Q v H'
  | .exc x ρ' => XPost G W io Rv F ρ' x
  | .stuck => False
def tB (G : Gx) (W : WX) (s : SB) : TA := fun σ H Q => ∃ ρ F Rv, ∃ io : Io G.ex.tabs, Rel G.K io Rv ρ F σ H ∧ match s ρ with
  | .ok os ρ' => ∀ vs H' F', FLe F F' → Rel G.K io Rv ρ' F' σ H' → OpdsOk G.K F' σ vs os → Q vs H'
  | .exc x ρ' => XPost G W io Rv F ρ' x
  | .stuck => False
/-- a new object that nobody else holds -/
def tF (G : Gx) (W : WX) (s : SE) : TE := fun σ H Q => ∃ ρ F Rv, ∃ io : Io G.ex.tabs, Rel G.K io Rv ρ F σ H ∧ match s ρ with
  | .ok d ρ' => ∀ p H' F', FLe F F' → Rel G.K io Rv ρ' F' σ H' → OwnAt G.K F' Rv H' p d → Loose ρ' σ p → Q (.ref p) H'
  | .exc x ρ' => XPost G W io Rv F ρ' x
  | .stuck => False
def SPost {T : List (Addr × Str)} (G : Gx) (W : WX) (io : Io T) (Rv F : Hp) (r : R Fl) (D : Ends) : Prop := match r with
  | .ok .nx ρ' => ∀ σ' H' F', FLe F F' → Rel G.K io Rv ρ' F' σ' H' → D.nx σ' H'
  | .ok .bk ρ' => ∀ σ' H' F', FLe F F' → Rel G.K io Rv ρ' F' σ' H' → D.bk σ' H'
  | .ok .ct ρ' => ∀ σ' H' F', FLe F F' → Rel G.K io Rv ρ' F' σ' H' → D.ct σ' H'
  | .ok (.rt d) ρ' => ∀ v σ' H' F', FLe F F' → Rel G.K io Rv ρ' F' σ' H' → Rp G.K F' v d → D.rt v H'
  | .exc x ρ' => XPost G W io Rv F ρ' x
  | .stuck => False
def tS (G : Gx) (W : WX) (s : SS) : TS := fun D σ H => ∃ ρ F Rv, ∃ io : Io G.ex.tabs, Rel G.K io Rv ρ F σ H ∧ SPost G W io Rv F (s ρ) D
/-- only the slots js differ -/
def Keeps (js : List Nat) (σ σ' : L2.St) : Prop := σ'.length = σ.length ∧ ∀ j, j ∉ js → σ'[j]? = σ[j]?
/-- a target: what it is given is frozen; js: the slots that it may change -/
def tG (G : Gx) (W : WX) (js : List Nat) (s : SG) : TG := fun v σ H Q => ∃ d ρ F Rv, ∃ io : Io G.ex.tabs, Rel G.K io Rv ρ F σ H ∧ Rp G.K F v d ∧ match s d ρ with
  | .ok _ ρ' => ∀ σ' H' F', FLe F F' → Rel G.K io Rv ρ' F' σ' H' → Keeps js σ σ' → Q σ' H'
  | .exc x ρ' => XPost G W io Rv F ρ' x
  | .stuck => False
theorem wkE {X : Cx} {e : Expr} {t u : TE} (h : PE X e t) (w : ∀ σ H Q, u σ H Q → t σ H Q) : PE X e u := ⟨fun pins s σ H Q I q => h.run pins s σ H Q I (w σ H Q q)⟩
theorem wkT {X : Cx} {e : Expr} {t u : TT} (h : PT X e t) (w : ∀ σ H Q, u σ H Q → t σ H Q) : PT X e u := ⟨fun pins s σ H Q I q => h.run pins s σ H Q I (w σ H Q q)⟩
theorem wkA {X : Cx} {e : List Expr} {t u : TA} (h : PA X e t) (w : ∀ σ H Q, u σ H Q → t σ H Q) : PA X e u := ⟨fun pos pins s σ H Q I q => h.run pos pins s σ H Q I (w σ H Q q)⟩
theorem wkS {X : Cx} {e : Stmt} {t u : TS} (h : PS X e t) (w : ∀ D σ H, u D σ H → t D σ H) : PS X e u := ⟨fun pins s σ H D I q => h.run pins s σ H D I (w D σ H q)⟩
theorem wkSs {X : Cx} {e : List Stmt} {t u : TS} (h : PSs X e t) (w : ∀ D σ H, u D σ H → t D σ H) : PSs X e u := ⟨fun pins s σ H D I q => h.run pins s σ H D I (w D σ H q)⟩
/-- an expression's value, locked behind it -/
def tLk (t : TE) : TE := fun σ H Q => t σ H fun v H' => Q v H' ∨ ∃ p o, v = .ref p ∧ H' p = some o ∧ Lkb o ∧ ∀ od, Q v (L2.upd H' p (lk od o))
theorem pe_lk {X : Cx} {e : Expr} {t : TE} (h : PE X e t) : PE X e (tLk t) := ⟨fun pins s σ H Q I q => thn (h.run pins s σ H _ I q) fun v s1 ⟨x, H1, I1, r, q1⟩ => by
  rcases q1 with q1 | ⟨p, o, rfl, e1, l, q1⟩
  · exact ⟨x, H1, I1, r, q1⟩
  · rcases l with ⟨xs, rfl⟩ | ⟨kvs, rfl⟩ | ⟨φ, rfl⟩ | ⟨C, dx, fs, rfl⟩
    · have e2 : L2.upd H1 p (.lst xs) = H1 := by
        funext a
        by_cases z : a = p
        · subst z; rw [upd_same, e1]
        · rw [upd_ne z]
      obtain ⟨od, _⟩ := I1.lock e1 trivial
      exact ⟨_, H1, I1, r, by have q2 := q1 od; rw [lk_lst, e2] at q2; exact q2⟩
    · obtain ⟨od, I2⟩ := I1.lock e1 trivial
      exact ⟨_, _, I2, r, q1 od⟩
    · obtain ⟨od, I2⟩ := I1.lock e1 trivial
      exact ⟨_, _, I2, r, q1 od⟩
    · have e2 : L2.upd H1 p (.ins C dx fs) = H1 := by
        funext a
        by_cases z : a = p
        · subst z; rw [upd_same, e1]
        · rw [upd_ne z]
      exact ⟨_, H1, I1, r, by have q2 := q1 { cls := .none, data := .plain }; rw [lk_ins, e2] at q2; exact q2⟩⟩
/-- where one stands: the law's context, the wish of exceptions -/
structure At (X : Cx) (W : WX) : Prop where
  calm : X.calm = true
  nd : X.N.Nodup
  un : X.A.units + 64 < cLine
  tk : L2N.Takes X W
  wd : X.w = HW.w
abbrev DE (G : Gx) (X : Cx) (W : WX) (e : Expr) (s : SE) : Prop := PE X e (tE G W s)
abbrev DT (G : Gx) (X : Cx) (W : WX) (e : Expr) (s : ST) : Prop := PT X e (tT G W s)
abbrev DA (G : Gx) (X : Cx) (W : WX) (e : List Expr) (s : SA) : Prop := PA X e (tA G W s)
abbrev DO (G : Gx) (X : Cx) (W : WX) (e : Expr) (s : SO) : Prop := PE X e (tO G W s)
abbrev DB (G : Gx) (X : Cx) (W : WX) (e : List Expr) (s : SB) : Prop := PA X e (tB G W s)
abbrev DF (G : Gx) (X : Cx) (W : WX) (e : Expr) (s : SE) : Prop := PE X e (tF G W s)
abbrev DS (G : Gx) (X : Cx) (W : WX) (e : Stmt) (s : SS) : Prop := PS X e (tS G W s)
abbrev DSs (G : Gx) (X : Cx) (W : WX) (e : List Stmt) (s : SS) : Prop := PSs X e (tS G W s)
abbrev DG (G : Gx) (X : Cx) (W : WX) (js : List Nat) (e : Expr) (s : SG) : Prop := PG X e (tG G W js s)
section
variable {G : Gx} {W : WX} {T : List (Addr × Str)} {io : Io T} {Rv F F' F1 : Hp} {ρ ρ' : Env} {σ : L2.St} {H H' : Hp}
theorem XPost.le {x : Exn} (h : XPost G W io Rv F ρ x) (le : FLe F F1) : XPost G W io Rv F1 ρ x := fun cls dd σ' H' F' l => h cls dd σ' H' F' (le.trans l)
theorem EPost.le {d : D} {Q : VK} (h : EPost G io Rv F σ ρ d Q) (le : FLe F F1) : EPost G io Rv F1 σ ρ d Q := fun v H' F' l => h v H' F' (le.trans l)
def Vw (K : PySem.W.Frag) (F H : Hp) (v : V) (d : D) : Prop := Rp K F v d ∨ ∃ p o, v = .ref p ∧ H p = some o ∧ OwnObj K F p o d
inductive Vws (K : PySem.W.Frag) (F H : Hp) : List V → List D → Prop
  | nil : Vws K F H [] []
  | cons {v : V} {vs : List V} {d : D} {ds : List D} : Vw K F H v d → Vws K F H vs ds → Vws K F H (v :: vs) (d :: ds)
theorem Rel.view (r : Rel G.K io Rv ρ F σ H) {v : V} {o : Opd} {d : D} (h : OpdOk G.K F σ v o) (e : o.get ρ = some d) : Vw G.K F H v d := by
  cases o with
  | val d' => cases e; exact .inl h
  | loc i =>
    have e : (ρ[i]?).bind Cell.data = some d := e
    cases ec : ρ[i]? with
    | none => rw [ec] at e; cases e
    | some c =>
      rw [ec] at e
      have e' : c.data = some d := e
      have q := r.cell i c _ ec h
      cases c with
      | no => cases e'
      | fro _ => cases e'; obtain ⟨x, ex, q⟩ := q; cases ex; exact .inl q
      | own _ => cases e'; obtain ⟨p, ex, q⟩ := q; cases ex; obtain ⟨o, h1, h2⟩ := q.at_; exact .inr ⟨p, o, rfl, h1, h2⟩
      | io _ => cases e'; obtain ⟨p, ex, q⟩ := q; cases ex; obtain ⟨o, h1, h2⟩ := q.at_; exact .inr ⟨p, o, rfl, h1, h2⟩
def getAll (ρ : Env) : List Opd → Option (List D)
  | [] => some []
  | o :: os => (o.get ρ).bind fun d => (getAll ρ os).map fun ds => d :: ds
theorem Rel.views (r : Rel G.K io Rv ρ F σ H) : ∀ {vs : List V} {os : List Opd} {ds : List D}, OpdsOk G.K F σ vs os → getAll ρ os = some ds → Vws G.K F H vs ds
  | _, _, _, .nil, e => by cases e; exact .nil
  | _, _, _, .cons (o := o) (os := os) a b, e => by
    unfold getAll at e
    cases e1 : o.get ρ with
    | none => rw [e1] at e; cases e
    | some d =>
      cases e2 : getAll ρ os with
      | none => rw [e1, e2] at e; cases e
      | some ds => rw [e1, e2] at e; cases e; exact .cons (r.view a e1) (r.views b e2)
theorem Vw.sqT {K : PySem.W.Frag} (fh : FLe F H) {v : V} {ds : List D} (h : Vw K F H v (.tup ds)) : ∃ a xs, v = .ref a ∧ SqT K H a xs ∧ Rps K F xs ds := by
  rcases h with h | ⟨p, o, _, _, h⟩
  · cases h with
    | tup t r => exact ⟨_, _, rfl, fh.sqT t.sq, r⟩
  · exact h.elim
theorem Vw.etup {K : PySem.W.Frag} {v : V} (h : Vw K F H v .etup) : ∃ a, v = .ref a ∧ EtC K a := by
  rcases h with h | ⟨p, o, _, _, h⟩
  · cases h with
    | etup t => exact ⟨_, rfl, t⟩
  · exact h.elim
theorem Vw.argT {K : PySem.W.Frag} (fh : FLe F H) {v : V} {ds : List D} (h : Vw K F H v (.arg ds)) : ∃ a xs, v = .ref a ∧ SqT K H a xs ∧ Rps K F xs ds := by
  rcases h with h | ⟨p, o, _, _, h⟩
  · cases h with
    | arg t r => exact ⟨_, _, rfl, fh.sqT t, r⟩
  · exact h.elim
theorem Vw.lst {K : PySem.W.Frag} (fh : FLe F H) {v : V} {ds : List D} (h : Vw K F H v (.lst ds)) : ∃ a xs, v = .ref a ∧ H a = some (.lst xs) ∧ Rps K F xs ds := by
  rcases h with h | ⟨p, o, e, h1, xs, rfl, r⟩
  · cases h with
    | lst t r => exact ⟨_, _, rfl, fh _ _ t, r⟩
  · exact ⟨p, xs, e, h1, r⟩
theorem Vw.dct {K : PySem.W.Frag} (fh : FLe F H) {v : V} {ks : List Key} {ds : List D} (h : Vw K F H v (.dct ks ds)) : ∃ a kvs, v = .ref a ∧ Rd H a (.dK kvs) ∧ kvs.map (·.1) = ks ∧ Rps K F (kvs.map (·.2)) ds := by
  rcases h with h | ⟨p, o, e, h1, kvs, rfl, e2, r⟩
  · cases h with
    | dct t r => exact ⟨_, _, rfl, .inr ⟨_, fh _ _ t⟩, rfl, r⟩
  · exact ⟨p, kvs, e, .inl h1, e2, r⟩
theorem Vw.int {K : PySem.W.Frag} {v : V} {i : Int} (h : Vw K F H v (.int i)) : v = .int i := by
  rcases h with h | ⟨p, o, _, _, h⟩
  · cases h; rfl
  · exact h.elim
theorem Vw.bl {K : PySem.W.Frag} {v : V} {i : Bool} (h : Vw K F H v (.bl i)) : v = .bl i := by
  rcases h with h | ⟨p, o, _, _, h⟩
  · cases h; rfl
  · exact h.elim
theorem Vw.str {K : PySem.W.Frag} {v : V} {i : Str} (h : Vw K F H v (.str i)) : v = .str i := by
  rcases h with h | ⟨p, o, _, _, h⟩
  · cases h; rfl
  · exact h.elim
theorem Vw.non {K : PySem.W.Frag} {v : V} (h : Vw K F H v .non) : v = .non := by
  rcases h with h | ⟨p, o, _, _, h⟩
  · cases h; rfl
  · exact h.elim
theorem Vws.one {K : PySem.W.Frag} {vs : List V} {d : D} (h : Vws K F H vs [d]) : ∃ v, vs = [v] ∧ Vw K F H v d := by
  cases h with
  | cons a b => cases b; exact ⟨_, rfl, a⟩
theorem Vws.two {K : PySem.W.Frag} {vs : List V} {d e : D} (h : Vws K F H vs [d, e]) : ∃ v w, vs = [v, w] ∧ Vw K F H v d ∧ Vw K F H w e := by
  cases h with
  | cons a b => cases b with
    | cons b c => cases c; exact ⟨_, _, rfl, a, b⟩
/-- behind an operation: more is there, what is frozen of it is new -/
structure New (F H F' H' : Hp) : Prop where
  f : FLe F F'
  h : FLe H H'
  fh : FLe F' H'
  new : ∀ a o, F' a = some o → F a = some o ∨ H a = none
  nt : NoTb F → NoTb F'
theorem New.refl (fh : FLe F H) : New F H F H := ⟨FLe.refl F, FLe.refl H, fh, (fun _ _ e => .inl e), fun h => h⟩
theorem Rel.after {K : PySem.W.Frag} (r : Rel K io Rv ρ F σ H) (n : New F H F' H') : Rel K io Rv ρ F' σ H' := r.grow n.f n.h n.fh n.new (n.nt r.nt)
theorem New.obj (fh : FLe F H) {p : Addr} (n : H p = none) (o : HO) (no : Lone o = true := by rfl) : New F H (upd F p o) (upd H p o) := by
  refine ⟨FLe.upd o (fh.noneOf n), FLe.upd o n, (fun a u e => ?_), (fun a u e => ?_), fun h => h.upd no⟩
  · by_cases h : a = p
    · subst h; rw [upd_same] at e ⊢; exact e
    · rw [upd_ne h] at e ⊢; exact fh a u e
  · by_cases h : a = p
    · subst h; exact .inr n
    · rw [upd_ne h] at e; exact .inl e
abbrev RL := List V → Hp → VK → Prop
/-- the rule r computes g on operands that are looked at -/
def PSem (G : Gx) (r : RL) (g : List D → Option D) : Prop := ∀ F H vs ds d (Q : VK), FLe F H → Vws G.K F H vs ds → g ds = some d → (∀ v H' F', New F H F' H' → Rp G.K F' v d → Q v H') → r vs H Q
/-- .. a new object -/
def FSem (G : Gx) (r : RL) (g : List D → Option D) : Prop := ∀ F H vs ds d (Q : VK), FLe F H → Vws G.K F H vs ds → g ds = some d → (∀ p o, H p = none → OwnObj G.K F p o d → Q (.ref p) (upd H p o)) → r vs H Q
theorem FSem.pure {r : RL} {g : List D → Option D} (h : FSem G r g) (hl : ∀ ds d, g ds = some d → ∃ xs, d = .lst xs) : PSem G r g := fun F H vs ds d Q fh vw e q => h F H vs ds d Q fh vw e fun p o n ob => by
  obtain ⟨xs, rfl⟩ := hl ds d e
  obtain ⟨ys, rfl, r⟩ := ob
  exact q _ _ _ (New.obj fh n _) (.lst upd_same (r.mono (FLe.upd _ (fh.noneOf n))))
end
section
variable {G : Gx} {X : Cx} {W : WX}
def sCst (d : D) : SE := fun ρ => .ok d ρ
theorem d_cst {e : Expr} {v : V} {d : D} (h : PE X e (tC v)) (r : ∀ F, Rp G.K F v d) : DE G X W e (sCst d) := wkE h fun σ H Q ⟨ρ, F, Rv, io, rel, q⟩ => q v H F (FLe.refl F) rel (r F)
theorem d_int {i j pos} : DE G X W (.Constant (.int i) j pos) (sCst (.int i)) := d_cst pe_int fun _ => .int i
theorem d_bl {i j pos} : DE G X W (.Constant (.bool i) j pos) (sCst (.bl i)) := d_cst pe_bl fun _ => .bl i
theorem d_non {j pos} : DE G X W (.Constant .none j pos) (sCst .non) := d_cst pe_non fun _ => .non
theorem d_str {i j pos} : DE G X W (.Constant (.str i) j pos) (sCst (.str i)) := d_cst pe_str fun _ => .str i
/-- a variable: its own object is frozen -/
def sVar (i : Nat) : SE := fun ρ => match ρ[i]? with
  | some (.fro d) => .ok d ρ
  | some (.own d) => .ok d (ρ.set i (.fro d))
  | _ => .stuck
theorem d_var {e : Expr} {i : Nat} (h : PE X e (tVar i)) : DE G X W e (sVar i) := wkE (pe_lk h) fun σ H Q ⟨ρ, F, Rv, io, rel, q⟩ => by
  unfold sVar at q
  cases e : ρ[i]? with
  | none => rw [e] at q; exact q.elim
  | some c =>
    rw [e] at q
    obtain ⟨v, e2, ok⟩ := rel.slot e
    cases c with
    | no => exact q.elim
    | io _ => exact q.elim
    | fro d =>
      obtain ⟨x, rfl, r⟩ := ok
      exact ⟨x, e2, .inl (q x H F (FLe.refl F) rel r)⟩
    | own d =>
      obtain ⟨p, rfl, w⟩ := ok
      obtain ⟨o, h1, h2⟩ := w.at_
      refine ⟨_, e2, .inr ⟨p, o, rfl, h1, h2.lkb, fun od => ?_⟩⟩
      obtain ⟨le, rel', rp⟩ := rel.freeze e e2 h1 h2 od
      exact q _ _ _ le rel' rp
/-- looked at -/
def sLoc (i : Nat) : SO := fun ρ => match ρ[i]? with
  | some .no => .stuck
  | none => .stuck
  | _ => .ok (.loc i) ρ
theorem d_loc {e : Expr} {i : Nat} (h : PE X e (tVar i)) : DO G X W e (sLoc i) := wkE h fun σ H Q ⟨ρ, F, Rv, io, rel, q⟩ => by
  unfold sLoc at q
  cases e : ρ[i]? with
  | none => rw [e] at q; exact q.elim
  | some c =>
    rw [e] at q
    obtain ⟨v, e2, ok⟩ := rel.slot e
    cases c with
    | no => exact q.elim
    | io d => obtain ⟨p, rfl, w⟩ := ok; exact ⟨_, e2, q _ H F (FLe.refl F) rel e2⟩
    | fro d => obtain ⟨x, rfl, r⟩ := ok; exact ⟨_, e2, q _ H F (FLe.refl F) rel e2⟩
    | own d => obtain ⟨p, rfl, w⟩ := ok; exact ⟨_, e2, q _ H F (FLe.refl F) rel e2⟩
def sVal (s : SE) : SO := fun ρ => (s ρ).bind fun d ρ' => .ok (.val d) ρ'
theorem d_val {e : Expr} {s : SE} (h : DE G X W e s) : DO G X W e (sVal s) := wkE h fun σ H Q ⟨ρ, F, Rv, io, rel, q⟩ => by
  refine ⟨ρ, F, Rv, io, rel, ?_⟩
  unfold sVal at q
  cases e : s ρ with
  | stuck => rw [e] at q; exact q.elim
  | exc x ρ' => rw [e] at q; exact q
  | ok d ρ' => rw [e] at q; exact fun v H' F' le rel' r => q v H' F' le rel' r
def sNil : SA := fun ρ => .ok [] ρ
def sCons (s : SE) (t : SA) : SA := fun ρ => (s ρ).bind fun d ρ1 => (t ρ1).bind fun ds ρ2 => .ok (d :: ds) ρ2
theorem d_nil : DA G X W [] sNil := wkA pa_nil fun σ H Q ⟨ρ, F, Rv, io, rel, q⟩ => q [] H F (FLe.refl F) rel .nil
theorem d_cons {e : Expr} {es : List Expr} {s : SE} {t : SA} (h : DE G X W e s) (ht : DA G X W es t) (hs : starEach (e :: es) X.env = (false, eval e X.env) :: starEach es X.env := by rfl) : DA G X W (e :: es) (sCons s t) :=
  wkA (pa_cons h ht hs) fun σ H Q ⟨ρ, F, Rv, io, rel, q⟩ => by
    refine ⟨ρ, F, Rv, io, rel, ?_⟩
    unfold sCons at q
    cases e : s ρ with
    | stuck => rw [e] at q; exact q.elim
    | exc x ρ' => rw [e] at q; exact q
    | ok d ρ' =>
      rw [e] at q
      refine fun v H' F' le rel' r => ⟨ρ', F', Rv, io, rel', ?_⟩
      rw [R.bind_ok] at q
      cases e2 : t ρ' with
      | stuck => rw [e2] at q; exact q.elim
      | exc x ρ'' => rw [e2] at q; exact XPost.le q le
      | ok ds ρ'' => rw [e2] at q; exact fun vs H2 F2 le2 rel2 r2 => q (v :: vs) H2 F2 (le.trans le2) rel2 (.cons (r.mono le2) r2)
def bNil : SB := fun ρ => .ok [] ρ
def bCons (s : SO) (t : SB) : SB := fun ρ => (s ρ).bind fun d ρ1 => (t ρ1).bind fun ds ρ2 => .ok (d :: ds) ρ2
theorem d_bnil : DB G X W [] bNil := wkA pa_nil fun σ H Q ⟨ρ, F, Rv, io, rel, q⟩ => q [] H F (FLe.refl F) rel .nil
theorem d_bcons {e : Expr} {es : List Expr} {s : SO} {t : SB} (h : DO G X W e s) (ht : DB G X W es t) (hs : starEach (e :: es) X.env = (false, eval e X.env) :: starEach es X.env := by rfl) : DB G X W (e :: es) (bCons s t) :=
  wkA (pa_cons h ht hs) fun σ H Q ⟨ρ, F, Rv, io, rel, q⟩ => by
    refine ⟨ρ, F, Rv, io, rel, ?_⟩
    unfold bCons at q
    cases e : s ρ with
    | stuck => rw [e] at q; exact q.elim
    | exc x ρ' => rw [e] at q; exact q
    | ok d ρ' =>
      rw [e] at q
      refine fun v H' F' le rel' r => ⟨ρ', F', Rv, io, rel', ?_⟩
      rw [R.bind_ok] at q
      cases e2 : t ρ' with
      | stuck => rw [e2] at q; exact q.elim
      | exc x ρ'' => rw [e2] at q; exact XPost.le q le
      | ok ds ρ'' => rw [e2] at q; exact fun vs H2 F2 le2 rel2 r2 => q (v :: vs) H2 F2 (le.trans le2) rel2 (.cons (r.mono le2) r2)
/-- an operation on operands that are looked at -/
def ofO {α : Type} (o : Option α) (ρ : Env) : R α := match o with
  | some a => .ok a ρ
  | none => .stuck
def sOps (g : List D → Option D) (s : SB) : SE := fun ρ => (s ρ).bind fun os ρ' => ofO ((getAll ρ' os).bind g) ρ'
def b1 (s : SO) : SB := bCons s bNil
def b2 (s t : SO) : SB := bCons s (bCons t bNil)
/-- a list of operands behind a rule by values -/
theorem ops_core {r : RL} {g : List D → Option D} (hg : PSem G r g) {s : SB} {σ : L2.St} {H : Hp} {Q : VK} (h : tE G W (sOps g s) σ H Q) : tB G W s σ H fun vs H' => r vs H' Q := by
  obtain ⟨ρ, F, Rv, io, rel, q⟩ := h
  refine ⟨ρ, F, Rv, io, rel, ?_⟩
  unfold sOps at q
  cases e : s ρ with
  | stuck => rw [e] at q; exact q.elim
  | exc x ρ' => rw [e] at q; exact q
  | ok os ρ' =>
    rw [e, R.bind_ok] at q
    refine fun vs H' F' le rel' ok => ?_
    cases e2 : getAll ρ' os with
    | none => rw [e2] at q; exact q.elim
    | some ds =>
      rw [e2, Option.bind_some] at q
      cases e3 : g ds with
      | none => rw [e3] at q; exact q.elim
      | some d =>
        rw [e3] at q
        exact hg F' H' vs ds d Q rel'.fH (rel'.views ok e2) e3 fun v H2 F2 n rp => q v H2 F2 (le.trans n.f) (rel'.after n) rp
theorem opsF_core {r : RL} {g : List D → Option D} (hg : FSem G r g) {s : SB} {σ : L2.St} {H : Hp} {Q : VK} (h : tF G W (sOps g s) σ H Q) : tB G W s σ H fun vs H' => r vs H' Q := by
  obtain ⟨ρ, F, Rv, io, rel, q⟩ := h
  refine ⟨ρ, F, Rv, io, rel, ?_⟩
  unfold sOps at q
  cases e : s ρ with
  | stuck => rw [e] at q; exact q.elim
  | exc x ρ' => rw [e] at q; exact q
  | ok os ρ' =>
    rw [e, R.bind_ok] at q
    refine fun vs H' F' le rel' ok => ?_
    cases e2 : getAll ρ' os with
    | none => rw [e2] at q; exact q.elim
    | some ds =>
      rw [e2, Option.bind_some] at q
      cases e3 : g ds with
      | none => rw [e3] at q; exact q.elim
      | some d =>
        rw [e3] at q
        refine hg F' H' vs ds d Q rel'.fH (rel'.views ok e2) e3 fun p o n ob => ?_
        have nF : F' p = none := rel'.fH.noneOf n
        have nR : Rv p = none := rel'.rH.noneOf n
        exact q p _ F' le (rel'.newH n o) ⟨nF, nR, o, upd_same, ob⟩ (rel'.loose n)
/-- two operands, one after the other -/
theorem two_core {a b : Expr} {sa sb : SO} {σ : L2.St} {H : Hp} {k : List V → Hp → Prop} (h : tB G W (b2 sa sb) σ H k) : tO G W sa σ H fun x H1 => tO G W sb σ H1 fun y H2 => k [x, y] H2 := by
  obtain ⟨ρ, F, Rv, io, rel, q⟩ := h
  refine ⟨ρ, F, Rv, io, rel, ?_⟩
  unfold b2 bCons at q
  cases e : sa ρ with
  | stuck => rw [e] at q; exact q.elim
  | exc x ρ' => rw [e] at q; exact q
  | ok o ρ' =>
    rw [e, R.bind_ok] at q
    refine fun v H' F' le rel' r => ⟨ρ', F', Rv, io, rel', ?_⟩
    cases e2 : sb ρ' with
    | stuck => rw [e2] at q; exact q.elim
    | exc x ρ'' => rw [e2] at q; exact XPost.le q le
    | ok o2 ρ'' =>
      rw [e2] at q
      exact fun w H2 F2 le2 rel2 r2 => q [v, w] H2 F2 (le.trans le2) rel2 (.cons (r.mono le2) (.cons r2 .nil))
theorem one_core {sa : SO} {σ : L2.St} {H : Hp} {k : List V → Hp → Prop} (h : tB G W (b1 sa) σ H k) : tO G W sa σ H fun x H1 => k [x] H1 := by
  obtain ⟨ρ, F, Rv, io, rel, q⟩ := h
  refine ⟨ρ, F, Rv, io, rel, ?_⟩
  unfold b1 bCons at q
  cases e : sa ρ with
  | stuck => rw [e] at q; exact q.elim
  | exc x ρ' => rw [e] at q; exact q
  | ok o ρ' =>
    rw [e, R.bind_ok] at q
    exact fun v H' F' le rel' r => q [v] H' F' le rel' (.cons r .nil)
def r2L (r : R2) : RL := fun vs H Q => ∃ x y, vs = [x, y] ∧ r x y H Q
end
end Dt
set_option Elab.async false
set_option linter.all false
set_option maxRecDepth 100000
set_option maxHeartbeats 4000000
namespace Dt
open PySem PySem.Spec PyProof.Rows L2
variable [HW]
abbrev tupO (its : List Value) : Obj := { cls := .type "tuple", data := .seq its.toArray }
/-- the new tuple at p -/
def NewT (H : Hp) (xs : List V) (Q : VK) : Prop := ∀ p o, H p = none → o.dict = none → Q (.ref p) (upd H p (.frz o (.tup xs)))
section
variable {X : Cx} {pins : List (Addr × Obj)} {σ : L2.St} {H : Hp} {s : Shared}
theorem frz_ok {P : Program} {w : World} {H : Hp} {h : Heap} {its : List Value} {xs : List V} (z : xs.length ≤ sizeLine) (r : Vals xs its) : ObjOk P w H (h.push (tupO its)) h.objs.size (.frz (tupO its) (.tup xs)) :=
  ⟨Heap.get?_push_size _ rfl, z, its, r, IsTup.new _ _⟩
theorem made {its : List Value} {xs : List V} {Q : VK} (I : Inv X pins σ H s) (r : Vals xs its) (z : xs.length ≤ sizeLine) (q : NewT H xs Q) : EP X pins σ Q (.ref s.heap.objs.size) { s with heap := s.heap.push (tupO its) } :=
  ⟨.ref s.heap.objs.size, _, I.laid (t' := s.toks) (o := .frz (tupO its) (.tup xs)) (fun b ob e => Heap.get?_push_of_some _ e) (Nat.le_refl _) (frz_ok z r), rfl, q _ _ (I.hok.fresh (Nat.le_refl _)) rfl⟩
/-- (a, b, ..) -/
def tTupZ (t : TA) : TE := fun σ H Q => t σ H fun xs H1 => xs.length ≤ sizeLine ∧ NewT H1 xs Q
theorem pe_tupZ {es : List Expr} {t : TA} {x1 : Nat} {pos : Pos} (h : PA X es t) : PE X (.Tuple es x1 pos) (tTupZ t) :=
  ⟨fun pins s σ H Q I hq => wpAny_Tuple_spliced (thn (h.run pos pins s σ H _ I hq) fun us s1 ⟨xs, H1, I1, r, z, q⟩ => ⟨by rw [← r.length]; exact z, made I1 r z q⟩)⟩
/-- t + u -/
def rCatZ (K : PySem.W.Frag) : R2 := fun x y H Q => ∃ (a b : Addr) (xs ys : List V), x = V.ref a ∧ y = V.ref b ∧ SqT K H a xs ∧ SqT K H b ys ∧ xs.length + ys.length ≤ sizeLine ∧ (xs = [] → Q (.ref b) H) ∧ (xs ≠ [] → ys = [] → Q (.ref a) H) ∧ (xs ≠ [] → ys ≠ [] → NewT H (xs ++ ys) Q)
theorem op_catZ : OpR X (binaryOp .Add) (rCatZ X.K) := by
  intro pins s σ H x y v u Q I rx ry ⟨a, b, xs, ys, ex, ey, ha, hb, hz, q0, q1, q2⟩
  subst ex ey
  by_cases hx : xs = []
  · exact op_catA pins s σ H _ _ v u Q I rx ry ⟨a, b, xs, ys, rfl, rfl, ha, hb, hz, q0, q1, fun n => absurd hx n⟩
  · cases rx; cases ry
    obtain ⟨its, r1, p1, _⟩ := I.tuple ha
    obtain ⟨its2, r2, p2, _⟩ := I.tuple hb
    exact HT.cat_tup p1 p2 (fun z => hx (r1.nil_iff.mp z)) (fun z => ⟨.ref a, H, I, rfl, q1 hx (r2.nil_iff.mp z)⟩) (fun z => made I (r1.append r2) (by rw [List.length_append]; exact hz) (q2 hx fun w => z (r2.nil_iff.mpr w))) (by rw [← r1.length, ← r2.length]; exact hz)
/-- t[lo:hi] -/
def rSlZ (K : PySem.W.Frag) : V → Option Int → Option Int → Hp → VK → Prop := fun x lo hi H Q => ∃ (a : Addr) (xs : List V), x = V.ref a ∧ SqT K H a xs ∧
  (HT.sIx xs.length 0 lo = 0 ∧ HT.sIx xs.length xs.length hi = xs.length → Q (.ref a) H) ∧ (¬ (HT.sIx xs.length 0 lo = 0 ∧ HT.sIx xs.length xs.length hi = xs.length) → NewT H (cutV xs lo hi) Q)
theorem sl_tupZ : SlR X (rSlZ X.K) := by
  intro pins s σ H x v vl vu lo hi sl Q I rx hs pl pu ⟨a, xs, ex, hx, q1, q2⟩
  subst ex
  by_cases hw : HT.sIx xs.length 0 lo = 0 ∧ HT.sIx xs.length xs.length hi = xs.length
  · exact sl_tupA pins s σ H _ v vl vu lo hi sl Q I rx hs pl pu ⟨a, xs, rfl, hx, q1, fun n => absurd hw n⟩
  · cases rx
    obtain ⟨its, r, ht, hz⟩ := I.tuple hx
    have hlen : its.toArray.size = xs.length := by rw [List.size_toArray]; exact r.length.symm
    refine ⟨"tuple", _, PyProof.Rows.slot_tuple_getitem.lookup, ht.typeIs, HT.getItem_tuple_cut ht hs pl pu (by rw [hlen]; exact hw) ?_ (by rw [hlen]; exact hz)⟩
    rw [hlen]
    exact made I ((r.drop (HT.sIx xs.length 0 lo)).take (HT.sIx xs.length xs.length hi - HT.sIx xs.length 0 lo)) (Nat.le_trans (cutV_length xs lo hi) hz) (q2 hw)
/-- tuple(x) -/
theorem call_tupleZ : CallR X (.type "tuple") (fun xs H Q => ∃ (p : Addr) (ys : List V), xs = [V.ref p] ∧ ((SqL X.K H p ys ∧ NewT H ys Q) ∨ (SqT X.K H p ys ∧ Q (.ref p) H))) := by
  intro pins s σ H xs us Q I r ⟨p, ys, ex, h⟩
  subst ex
  obtain ⟨u, eu, rx⟩ := vals1 r
  subst eu; cases rx
  rcases h with ⟨hq, q⟩ | ⟨hq, q⟩
  · obtain ⟨its, r', pl, hz⟩ := I.list hq
    have hlen := r'.length
    exact call_tuple_list pl.isList (fun h1 kp => made (s := { s with heap := h1 }) (I.kept (t' := s.toks) kp) r' hz q) (by simp only [List.size_toArray]; omega)
  · obtain ⟨its, r', pl, hz⟩ := I.tuple hq
    exact call_tuple_same pl ⟨.ref p, H, I, rfl, q⟩
/-- t * k -/
theorem tuple_mul1 (l : Addr) (items : Array Value) (n : Nat) (dd : Option Addr) (sl : Array (Option Value)) (u : Tok) :
    Meets (Builtin.«tuple.__mul__» ⟨[.ref l, .int 1 u], []⟩) (fun _ R s => s.heap.get? l = some { cls := .type "tuple", dict := dd, data := .seq items n, slots := sl } ∧ R (.ok (.ret (Value.ref l))) s) :=
  .of_wp fun prog w A R s h => by
    obtain ⟨hp, g, d, tk, os⟩ := s
    obtain ⟨hl, h⟩ := h
    have f1 := AutoSeq1.idx_int
    wp_walk using wpAny_loadPart' hl
    repeat (first
      | (refine wpAny_ite_false (decide_eq_false (by decide)) ?_; wp_walk using wpAny_loadPart' hl)
      | (refine wpAny_ite_true (decide_eq_true (by simp)) ?_; wp_walk using wpAny_loadPart' hl))
    exact ⟨_, rfl, h⟩
/-- t * 1: the same tuple -/
def rRep1 (K : PySem.W.Frag) : R2 := fun x y H Q => ∃ (l : Addr) (xs : List V), x = V.ref l ∧ y = V.int 1 ∧ SqT K H l xs ∧ Q (.ref l) H
theorem op_rep1 : OpR X (binaryOp .Mult) (rRep1 X.K) := by
  intro pins s σ H x y v u Q I rx ry ⟨l, xs, ex, ey, hT, q⟩
  subst ex ey
  cases rx
  obtain ⟨t, rfl⟩ := ry
  obtain ⟨its, r, ⟨⟨cls, dd, data, sl⟩, ho, hc, n, hd⟩, hs⟩ := I.tuple hT
  obtain rfl : cls = _ := hc
  obtain rfl : data = _ := hd
  exact wpAny_binaryOp_repeat_ref (T := "tuple") (U := "int") (by decide) ⟨_, ho, rfl⟩ (fun z => typeIs_int z 1 t) noFill_tuple_mul F.fills_int_mul F.slot_int_rmul repeat_tuple F.slot_int_index.lookup (call_meets F.slot_int_rmul (typeIs_int s 1 t) F.entry_int_rmul (F.args_int_rmul_2 _ _) (int_rmul_tuple 1 t l its.toArray n dd sl)
    ⟨ho, rfl, ⟨_, ho, rfl⟩, call_meets F.slot_tuple_mul ⟨_, ho, rfl⟩ F.entry_tuple_mul (F.args_tuple_mul_2 _ _) (tuple_mul1 l its.toArray n dd sl t) ⟨ho, ⟨.ref l, H, I, rfl, q⟩⟩⟩)
def rRepZ (K : PySem.W.Frag) : R2 := fun x y H Q => ∃ (l : Addr) (k : Int) (xs : List V), x = V.ref l ∧ y = V.int k ∧ SqT K H l xs ∧ xs ≠ [] ∧ 2 ≤ k ∧ k ≤ 1000 ∧ xs.length ≤ 1000 ∧ NewT H (List.replicate k.toNat xs).flatten Q
theorem rep_len {α : Type} {l : List α} {k : Int} (h1 : l.length ≤ 1000) (h2 : k ≤ 1000) : (List.replicate k.toNat l).flatten.length ≤ sizeLine := by
  have h3 : k.toNat * l.length ≤ 1000 * 1000 := Nat.mul_le_mul (by omega) h1
  rw [PyProof.Rows.lm_len_rep_flat, sizeLine_eq]; omega
theorem op_repZ : OpR X (binaryOp .Mult) (rRepZ X.K) := by
  intro pins s σ H x y v u Q I rx ry ⟨l, k, xs, ex, ey, hT, ne, h1, h2, hz, q⟩
  subst ex ey
  cases rx
  obtain ⟨t, rfl⟩ := ry
  obtain ⟨its, r, ⟨⟨cls, dd, data, sl⟩, ho, hc, n, hd⟩, hs⟩ := I.tuple hT
  obtain rfl : cls = _ := hc
  obtain rfl : data = _ := hd
  have le := r.length
  have full : its.toArray.isEmpty = false := by
    cases its with
    | nil => exact absurd (List.eq_nil_of_length_eq_zero le) ne
    | cons a b => rfl
  have sz : ((its.toArray.size : Nat) : Int) * k ≤ 1000 * k := Int.mul_le_mul_of_nonneg_right (by rw [List.size_toArray]; omega) (by omega)
  have b0 : (decide (k < -(2 ^ 63)) || decide (k ≥ 2 ^ 63)) = false := by simp; omega
  have b1 : (its.toArray.isEmpty || k == 1) = false := by rw [full, Bool.false_or]; exact beq_eq_false_iff_ne.mpr (by omega)
  have b2 : (decide (k ≤ 0) || its.toArray.isEmpty) = false := by rw [full, Bool.or_false]; exact decide_eq_false (by omega)
  have b3 : Builtin.Tuple.tupleTooMany (((its.toArray.size : Nat) : Int) * k) = false := by unfold Builtin.Tuple.tupleTooMany; rw [sizeLine_eq]; exact decide_eq_false (by omega)
  refine wpAny_binaryOp_repeat_ref (T := "tuple") (U := "int") (by decide) ⟨_, ho, rfl⟩ (fun z => typeIs_int z k t) noFill_tuple_mul F.fills_int_mul F.slot_int_rmul repeat_tuple F.slot_int_index.lookup (call_meets F.slot_int_rmul (typeIs_int s k t) F.entry_int_rmul (F.args_int_rmul_2 _ _) (int_rmul_tuple k t l its.toArray n dd sl)
    ⟨ho, rfl, ⟨_, ho, rfl⟩, call_meets F.slot_tuple_mul ⟨_, ho, rfl⟩ F.entry_tuple_mul (F.args_tuple_mul_2 _ _) (tuple_mulW l its.toArray n dd sl k t b0 b1 b2 (by omega) b3 (by rw [size_rep, List.size_toArray]; exact rep_len (by omega) h2)) ⟨ho, ?_⟩⟩)
  rw [size_rep]
  exact made I (r.rep k.toNat) (rep_len hz h2) q
end
end Dt
set_option Elab.async false
set_option linter.all false
set_option maxRecDepth 100000
set_option maxHeartbeats 2000000
namespace Dt
open PySem PySem.Spec PyProof.Rows L2
variable [HW]
mutual
def D.py : D → Option PyData
  | .non => some .none
  | .bl b => some (.bool b)
  | .int i => some (.int i)
  | .str s => some (.str s)
  | .tup ds => (D.pys ds).map .tuple
  | .lst ds => (D.pys ds).map .list
  | .dct _ _ => none
  | .scr _ => none
  | .arg _ => none
  | .fn _ => none
  | .exn _ => none
  | .xv _ => none
  | .xm _ _ => none
  | .tal _ => none
  | .etup => none
  | .nd _ _ => none
def D.pys : List D → Option (List PyData)
  | [] => some []
  | d :: ds => (D.py d).bind fun x => (D.pys ds).map fun xs => x :: xs
end
mutual
theorem Rp.dp {K : PySem.W.Frag} {F : Hp} : ∀ {v : V} {d : D} {e : PyData}, Rp K F v d → d.py = some e → Dp K F v e
  | _, _, _, .non, h => by simp only [D.py] at h; cases h; exact .non
  | _, _, _, .bl b, h => by simp only [D.py] at h; cases h; exact .bl b
  | _, _, _, .int b, h => by simp only [D.py] at h; cases h; exact .int b
  | _, _, _, .str b, h => by simp only [D.py] at h; cases h; exact .str b
  | _, _, _, .tup (ds := ds) t r, h => by
    simp only [D.py] at h
    cases e : D.pys ds with
    | none => rw [e] at h; cases h
    | some xs => rw [e] at h; cases h; exact .tup t.sq (Rps.dp r e)
  | _, _, _, .lst (ds := ds) t r, h => by
    simp only [D.py] at h
    cases e : D.pys ds with
    | none => rw [e] at h; cases h
    | some xs => rw [e] at h; cases h; exact .lst (SqL.of t) (Rps.dp r e)
  | _, _, _, .dct _ _, h => by simp only [D.py] at h; cases h
  | _, _, _, .scr _, h => by simp only [D.py] at h; cases h
  | _, _, _, .arg _ _, h => by simp only [D.py] at h; cases h
  | _, _, _, .fn _, h => by simp only [D.py] at h; cases h
  | _, _, _, .exn _, h => by simp only [D.py] at h; cases h
  | _, _, _, .xv _ _, h => by simp only [D.py] at h; cases h
  | _, _, _, .xm _ _ _ _, h => by simp only [D.py] at h; cases h
  | _, _, _, .tal _ _, h => by simp only [D.py] at h; cases h
  | _, _, _, .etup _, h => by simp only [D.py] at h; cases h
  | _, _, _, .nd _ _ _ _, h => by simp only [D.py] at h; cases h
theorem Rps.dp {K : PySem.W.Frag} {F : Hp} : ∀ {vs : List V} {ds : List D} {es : List PyData}, Rps K F vs ds → D.pys ds = some es → DpAll K F vs es
  | _, _, _, .nil, h => by simp only [D.pys] at h; cases h; exact .nil
  | _, _, _, .cons (d := d) (ds := ds) a b, h => by
    simp only [D.pys] at h
    cases e1 : D.py d with
    | none => rw [e1] at h; cases h
    | some x =>
      cases e2 : D.pys ds with
      | none => rw [e1, e2] at h; cases h
      | some xs => rw [e1, e2] at h; cases h; exact .cons (Rp.dp a e1) (Rps.dp b e2)
end
theorem Vw.dp {K : PySem.W.Frag} {F H : Hp} (fh : FLe F H) {v : V} {d : D} {e : PyData} (h : Vw K F H v d) (q : d.py = some e) : Dp K H v e := by
  rcases h with h | ⟨p, o, rfl, h1, h2⟩
  · exact (h.mono fh).dp q
  · cases d with
    | lst ds =>
      obtain ⟨xs, rfl, r⟩ := h2
      exact Rp.dp (.lst h1 (r.mono fh)) q
    | _ => first | exact h2.elim | (simp only [D.py] at q; cases q)
section
variable {G : Gx}
def gI (C : Int → Int → Prop) [∀ i j, Decidable (C i j)] (f : Int → Int → D) : List D → Option D
  | [.int i, .int j] => if C i j then some (f i j) else none
  | _ => none
/-- a result that is no object -/
theorem fin_flat {F H : Hp} {K : PySem.W.Frag} {v : V} {d : D} {Q : VK} (fh : FLe F H) (q : ∀ v H' F', New F H F' H' → Rp K F' v d → Q v H') (r : Rp K F v d) : Q v H := q v H F (New.refl fh) r
/-- a rule of two ints -/
theorem psem_I {C : Int → Int → Prop} [∀ i j, Decidable (C i j)] {f : Int → Int → D} {fv : Int → Int → V} (hf : ∀ F i j, Rp G.K F (fv i j) (f i j)) : PSem G (r2L (rI C fv)) (gI C f) := fun F H vs ds d Q fh vw e q => by
  unfold gI at e
  split at e
  · rename_i i j
    split at e
    · rename_i hc
      cases e
      obtain ⟨v, w, rfl, h1, h2⟩ := vw.two
      exact ⟨v, w, rfl, i, j, h1.int, h2.int, hc, fin_flat fh q (hf F i j)⟩
    · cases e
  · cases e
theorem psem_I0 {f : Int → Int → D} {fv : Int → Int → V} (hf : ∀ F i j, Rp G.K F (fv i j) (f i j)) : PSem G (r2L (rI0 fv)) (gI (fun _ _ => True) f) := fun F H vs ds d Q fh vw e q => by
  unfold gI at e
  split at e
  · rename_i i j
    split at e
    · cases e
      obtain ⟨v, w, rfl, h1, h2⟩ := vw.two
      exact ⟨v, w, rfl, i, j, h1.int, h2.int, fin_flat fh q (hf F i j)⟩
    · cases e
  · cases e
def gStr2 (C : Str → Str → Prop) [∀ i j, Decidable (C i j)] (f : Str → Str → D) : List D → Option D
  | [.str i, .str j] => if C i j then some (f i j) else none
  | _ => none
instance (i j : Str) : Decidable (i.length + j.length ≤ sizeLine) := inferInstance
theorem psem_catS : PSem G (r2L fun x y H Q => ∃ i j, x = .str i ∧ y = .str j ∧ i.length + j.length ≤ sizeLine ∧ Q (.str (i ++ j)) H) (gStr2 (fun i j => i.length + j.length ≤ sizeLine) fun i j => .str (i ++ j)) := fun F H vs ds d Q fh vw e q => by
  unfold gStr2 at e
  split at e
  · rename_i i j
    split at e
    · rename_i hc
      cases e
      obtain ⟨v, w, rfl, h1, h2⟩ := vw.two
      exact ⟨v, w, rfl, i, j, h1.str, h2.str, hc, fin_flat fh q (.str _)⟩
    · cases e
  · cases e
/-- tuples -/
def gCatT : List D → Option D
  | [.tup a, .tup b] => if a.length + b.length ≤ sizeLine then some (.tup (a ++ b)) else none
  | _ => none
theorem psem_catT : PSem G (r2L (rCatZ G.K)) gCatT := fun F H vs ds d Q fh vw e q => by
  unfold gCatT at e
  split at e
  · rename_i ds1 ds2
    split at e
    · rename_i hc
      cases e
      obtain ⟨v, w, rfl, h1, h2⟩ := vw.two
      obtain ⟨a, xs, rfl, t1, r1⟩ := h1.sqT fh
      obtain ⟨b, ys, rfl, t2, r2⟩ := h2.sqT fh
      have rp1 : Rp G.K F (.ref a) (.tup ds1) := by rcases h1 with z | ⟨_, _, _, _, z⟩; exact z; exact z.elim
      have rp2 : Rp G.K F (.ref b) (.tup ds2) := by rcases h2 with z | ⟨_, _, _, _, z⟩; exact z; exact z.elim
      refine ⟨_, _, rfl, a, b, xs, ys, rfl, rfl, t1, t2, by rw [r1.length, r2.length]; exact hc, fun z => ?_, fun z1 z2 => ?_, fun z1 z2 p o hp ho => ?_⟩
      · subst z
        cases r1
        exact fin_flat fh q (by simpa using rp2)
      · subst z2
        cases r2
        exact fin_flat fh q (by simpa using rp1)
      · exact q _ _ _ (New.obj fh hp _) (.tup (.new ho) ((r1.append r2).mono (FLe.upd _ (fh.noneOf hp))))
    · cases e
  · cases e
/-- lists -/
def gCatL : List D → Option D
  | [.lst a, .lst b] => if a.length + b.length ≤ sizeLine then some (.lst (a ++ b)) else none
  | _ => none
theorem catL_lst (ds : List D) (d : D) (e : gCatL ds = some d) : ∃ xs, d = .lst xs := by
  unfold gCatL at e
  split at e
  · split at e
    · cases e; exact ⟨_, rfl⟩
    · cases e
  · cases e
theorem fsem_catL : FSem G (r2L rCat) gCatL := fun F H vs ds d Q fh vw e q => by
  unfold gCatL at e
  split at e
  · rename_i ds1 ds2
    split at e
    · rename_i hc
      cases e
      obtain ⟨v, w, rfl, h1, h2⟩ := vw.two
      obtain ⟨a, xs, rfl, t1, r1⟩ := h1.lst fh
      obtain ⟨b, ys, rfl, t2, r2⟩ := h2.lst fh
      exact ⟨_, _, rfl, a, b, xs, ys, rfl, rfl, t1, t2, by rw [r1.length, r2.length]; exact hc, fun p hp => q p _ hp ⟨_, rfl, r1.append r2⟩⟩
    · cases e
  · cases e
/-- a + b -/
def rAddAll (K : PySem.W.Frag) : R2 := fun x y H Q => rI0 (fun i j => .int (i + j)) x y H Q ∨ ((∃ i j, x = .str i ∧ y = .str j ∧ i.length + j.length ≤ sizeLine ∧ Q (.str (i ++ j)) H) ∨ (rCatZ K x y H Q ∨ rCat x y H Q))
theorem op_addAll {X : Cx} : OpR X (binaryOp .Add) (rAddAll X.K) := op_add.or (op_add_str.or (op_catZ.or op_cat))
def gAdd : List D → Option D
  | [.int i, .int j] => some (.int (i + j))
  | [.str i, .str j] => if i.length + j.length ≤ sizeLine then some (.str (i ++ j)) else none
  | [.tup a, .tup b] => if a.length + b.length ≤ sizeLine then some (.tup (a ++ b)) else none
  | [.lst a, .lst b] => if a.length + b.length ≤ sizeLine then some (.lst (a ++ b)) else none
  | _ => none
theorem psem_add : PSem G (r2L (rAddAll G.K)) gAdd := fun F H vs ds d Q fh vw e q => by
  unfold gAdd at e
  split at e
  · rename_i i j
    obtain ⟨x, y, e1, z⟩ := psem_I0 (G := G) (f := fun i j => .int (i + j)) (fv := fun i j => .int (i + j)) (fun _ _ _ => .int _) F H vs [.int i, .int j] d Q fh vw e q
    exact ⟨x, y, e1, .inl z⟩
  · rename_i i j
    obtain ⟨x, y, e1, z⟩ := psem_catS F H vs [.str i, .str j] d Q fh vw e q
    exact ⟨x, y, e1, .inr (.inl z)⟩
  · rename_i i j
    obtain ⟨x, y, e1, z⟩ := psem_catT F H vs [.tup i, .tup j] d Q fh vw e q
    exact ⟨x, y, e1, .inr (.inr (.inl z))⟩
  · rename_i i j
    obtain ⟨x, y, e1, z⟩ := (fsem_catL.pure catL_lst) F H vs [.lst i, .lst j] d Q fh vw e q
    exact ⟨x, y, e1, .inr (.inr (.inr z))⟩
  · cases e
abbrev gSub : List D → Option D := gI (fun _ _ => True) fun i j => .int (i - j)
theorem psem_sub : PSem G (r2L (rI0 fun i j => .int (i - j))) gSub := psem_I0 fun _ _ _ => .int _
instance (i j : Int) : Decidable (CMulW i j) := by unfold CMulW; infer_instance
/-- one factor below 2^64, or both together not too long -/
def CMulA (i j : Int) : Prop := CMul i j ∨ CMulW i j
instance (i j : Int) : Decidable (CMulA i j) := by unfold CMulA CMul; infer_instance
instance (i j : Int) : Decidable (CDivW i j) := by unfold CDivW; infer_instance
instance (i j : Int) : Decidable (CPow i j) := by unfold CPow; infer_instance
/-- a * b: ints; a tuple so often -/
def rMulAll (K : PySem.W.Frag) : R2 := fun x y H Q => rI CMulA (fun i j => .int (i * j)) x y H Q ∨ rRepZ K x y H Q ∨ rRep1 K x y H Q
def gMul : List D → Option D
  | [.int i, .int j] => if CMulA i j then some (.int (i * j)) else none
  | [.tup a, .int k] => if a.isEmpty = false ∧ 1 ≤ k ∧ k ≤ 1000 ∧ a.length ≤ 1000 then some (.tup (List.replicate k.toNat a).flatten) else none
  | _ => none
theorem psem_mul : PSem G (r2L (rMulAll G.K)) gMul := fun F H vs ds d Q fh vw e q => by
  unfold gMul at e
  split at e
  · rename_i i j
    split at e
    · rename_i hc
      cases e
      obtain ⟨v, w, rfl, h1, h2⟩ := vw.two
      exact ⟨v, w, rfl, .inl ⟨i, j, h1.int, h2.int, hc, fin_flat fh q (.int _)⟩⟩
    · cases e
  · rename_i ds1 k
    split at e
    · rename_i hc
      cases e
      obtain ⟨v, w, rfl, h1, h2⟩ := vw.two
      obtain ⟨a, xs, rfl, t1, r1⟩ := h1.sqT fh
      have e2 := h2.int
      subst e2
      obtain ⟨c1, c2, c3, c4⟩ := hc
      by_cases k1 : k = 1
      · subst k1
        refine ⟨_, _, rfl, .inr (.inr ⟨a, xs, rfl, rfl, t1, ?_⟩)⟩
        rcases h1 with h1 | ⟨_, _, _, _, h1⟩
        · refine fin_flat fh q ?_
          have : (List.replicate (1 : Int).toNat ds1).flatten = ds1 := by simp
          rw [this]
          exact h1
        · exact h1.elim
      refine ⟨_, _, rfl, .inr (.inl ⟨a, k, xs, rfl, rfl, t1, fun z => ?_, by omega, c3, by rw [r1.length]; exact c4, fun p o hp ho => q _ _ _ (New.obj fh hp _) (.tup (.new ho) ((r1.rep _).mono (FLe.upd _ (fh.noneOf hp))))⟩)⟩
      subst z
      cases r1
      cases c1
    · cases e
  · cases e
theorem op_mulA {X : Cx} : OpR X (binaryOp .Mult) (rI CMulA fun i j => .int (i * j)) := by
  intro pins s σ H x y v u Q I rx ry ⟨i, j, h1, h2, hc, q⟩
  rcases hc with hc | hc
  · exact op_mul pins s σ H x y v u Q I rx ry ⟨i, j, h1, h2, hc, q⟩
  · exact op_mulW pins s σ H x y v u Q I rx ry ⟨i, j, h1, h2, hc, q⟩
theorem op_mulAll {X : Cx} : OpR X (binaryOp .Mult) (rMulAll X.K) := op_mulA.or (op_repZ.or op_rep1)
abbrev gDiv : List D → Option D := gI CDivW fun i j => .int (i / j)
theorem psem_div : PSem G (r2L (rI CDivW fun i j => .int (i / j))) gDiv := psem_I fun _ _ _ => .int _
abbrev gMod : List D → Option D := gI (fun _ j => 0 < j) fun i j => .int (i % j)
theorem psem_mod : PSem G (r2L (rI (fun _ j => 0 < j) fun i j => .int (i % j))) gMod := psem_I fun _ _ _ => .int _
abbrev gPow : List D → Option D := gI CPow fun i j => .int (i ^ j.toNat)
theorem psem_pow : PSem G (r2L (rI CPow fun i j => .int (i ^ j.toNat))) gPow := psem_I fun _ _ _ => .int _
def gNeg : List D → Option D
  | [.int i] => some (.int (-i))
  | _ => none
theorem psem_neg : PSem G (fun vs H Q => ∃ x, vs = [x] ∧ rU (fun i => .int (-i)) x H Q) gNeg := fun F H vs ds d Q fh vw e q => by
  unfold gNeg at e
  split at e
  · rename_i i
    cases e
    obtain ⟨v, rfl, h1⟩ := vw.one
    exact ⟨v, rfl, i, h1.int, fin_flat fh q (.int _)⟩
  · cases e
def lexI (f : Int → Int → Bool) (g : Str → Str → Bool) : List D → Option D
  | [.int i, .int j] => some (.bl (f i j))
  | [.str i, .str j] => some (.bl (g i j))
  | _ => none
def rOrd (f : Int → Int → Bool) (g : Str → Str → Bool) : R2 := fun x y H Q => rI0 (fun i j => .bl (f i j)) x y H Q ∨ ∃ i j, x = .str i ∧ y = .str j ∧ Q (.bl (g i j)) H
theorem psem_ord {f : Int → Int → Bool} {g : Str → Str → Bool} : PSem G (r2L (rOrd f g)) (lexI f g) := fun F H vs ds d Q fh vw e q => by
  unfold lexI at e
  split at e
  · rename_i i j
    cases e
    obtain ⟨v, w, rfl, h1, h2⟩ := vw.two
    exact ⟨v, w, rfl, .inl ⟨i, j, h1.int, h2.int, fin_flat fh q (.bl _)⟩⟩
  · rename_i i j
    cases e
    obtain ⟨v, w, rfl, h1, h2⟩ := vw.two
    exact ⟨v, w, rfl, .inr ⟨i, j, h1.str, h2.str, fin_flat fh q (.bl _)⟩⟩
  · cases e
abbrev sLt (i j : Str) : Bool := decide (i.cps.toList < j.cps.toList)
abbrev sLe (i j : Str) : Bool := !decide (j.cps.toList < i.cps.toList)
abbrev gLt : List D → Option D := lexI (fun i j => decide (i < j)) sLt
abbrev gLe : List D → Option D := lexI (fun i j => decide (i ≤ j)) sLe
abbrev gGt : List D → Option D := lexI (fun i j => decide (j < i)) fun i j => sLt j i
abbrev gGe : List D → Option D := lexI (fun i j => decide (j ≤ i)) fun i j => sLe j i
theorem op_ltA {X : Cx} : OpR X (compareOp .Lt) (rOrd (fun i j => decide (i < j)) sLt) := op_lt.or op_lt_str
theorem op_leA {X : Cx} : OpR X (compareOp .LtE) (rOrd (fun i j => decide (i ≤ j)) sLe) := op_le.or op_le_str
theorem op_gtA {X : Cx} : OpR X (compareOp .Gt) (rOrd (fun i j => decide (j < i)) fun i j => sLt j i) := op_gt.or op_gt_str
theorem op_geA {X : Cx} : OpR X (compareOp .GtE) (rOrd (fun i j => decide (j ≤ i)) fun i j => sLe j i) := op_ge.or op_ge_str
/-- == at any depth -/
def eqD (a b : D) : Option Bool := (a.py).bind fun x => (b.py).bind fun y => if (SeqAt.shaped x && SeqAt.shaped y) = true then some (PyData.eqv x y) else none
def gEq : List D → Option D
  | [a, b] => (eqD a b).map .bl
  | _ => none
def gNe : List D → Option D
  | [a, b] => (eqD a b).map fun k => .bl (!k)
  | _ => none
theorem eqD_some {a b : D} {k : Bool} (h : eqD a b = some k) : ∃ x y, a.py = some x ∧ b.py = some y ∧ SeqAt.shaped x = true ∧ SeqAt.shaped y = true ∧ k = PyData.eqv x y := by
  unfold eqD at h
  cases e1 : a.py with
  | none => rw [e1] at h; cases h
  | some x =>
    cases e2 : b.py with
    | none => rw [e1, e2] at h; cases h
    | some y =>
      rw [e1, e2] at h
      simp only [Option.bind_some] at h
      split at h
      · rename_i hs
        rw [Bool.and_eq_true] at hs
        cases h
        exact ⟨x, y, rfl, rfl, hs.1, hs.2, rfl⟩
      · cases h
theorem psem_eq : PSem G (r2L (rEqD G.K)) gEq := fun F H vs ds d Q fh vw e q => by
  unfold gEq at e
  split at e
  · rename_i a b
    cases e1 : eqD a b with
    | none => rw [e1] at e; cases e
    | some k =>
      rw [e1] at e
      cases e
      obtain ⟨v, w, rfl, h1, h2⟩ := vw.two
      obtain ⟨x, y, p1, p2, s1, s2, rfl⟩ := eqD_some e1
      exact ⟨v, w, rfl, x, y, h1.dp fh p1, h2.dp fh p2, s1, s2, fin_flat fh q (.bl _)⟩
  · cases e
theorem psem_ne : PSem G (r2L (rNeD G.K)) gNe := fun F H vs ds d Q fh vw e q => by
  unfold gNe at e
  split at e
  · rename_i a b
    cases e1 : eqD a b with
    | none => rw [e1] at e; cases e
    | some k =>
      rw [e1] at e
      cases e
      obtain ⟨v, w, rfl, h1, h2⟩ := vw.two
      obtain ⟨x, y, p1, p2, s1, s2, rfl⟩ := eqD_some e1
      exact ⟨v, w, rfl, x, y, h1.dp fh p1, h2.dp fh p2, s1, s2, fin_flat fh q (.bl _)⟩
  · cases e
/-- is None, is True, is False -/
def isD : D → D → Option Bool
  | .non, .non => some true
  | .bl a, .bl b => some (decide (a = b))
  | _, .non => some false
  | _, _ => none
def gIs : List D → Option D
  | [a, b] => (isD a b).map .bl
  | _ => none
def gIsNot : List D → Option D
  | [a, b] => (isD a b).map fun k => .bl (!k)
  | _ => none
def rIsA (k : Bool) : R2 := fun x y H Q => (y = .non ∧ Q (.bl (xor k (decide (x = .non)))) H) ∨ ∃ a b, x = .bl a ∧ y = .bl b ∧ Q (.bl (xor k (decide (a = b)))) H
theorem op_isA {X : Cx} : OpR X (compareOp .Is) (rIsA false) := by
  intro pins s σ H x y v u Q I rx ry h
  rcases h with ⟨h1, h2⟩ | ⟨a, b, h1, h2, h3⟩
  · exact op_isN pins s σ H x y v u Q I rx ry ⟨h1, by simpa using h2⟩
  · exact op_is_bl pins s σ H x y v u Q I rx ry ⟨a, b, h1, h2, by simpa using h3⟩
theorem op_isNotA {X : Cx} : OpR X (compareOp .IsNot) (rIsA true) := by
  intro pins s σ H x y v u Q I rx ry h
  rcases h with ⟨h1, h2⟩ | ⟨a, b, h1, h2, h3⟩
  · exact op_notN pins s σ H x y v u Q I rx ry ⟨h1, by simpa using h2⟩
  · exact op_isnot_bl pins s σ H x y v u Q I rx ry ⟨a, b, h1, h2, by simpa using h3⟩
theorem Vw.not_non {K : PySem.W.Frag} {F H : Hp} {v : V} {d : D} (h : Vw K F H v d) (n : d ≠ .non) : v ≠ .non := fun e => by
  subst e
  rcases h with h | ⟨p, o, e, _⟩
  · cases h; exact n rfl
  · cases e
theorem isD_vw {K : PySem.W.Frag} {F H : Hp} {v w : V} {a b : D} {k : Bool} (e : isD a b = some k) (h1 : Vw K F H v a) (h2 : Vw K F H w b) : (w = .non ∧ k = decide (v = .non)) ∨ ∃ x y, v = .bl x ∧ w = .bl y ∧ k = decide (x = y) := by
  cases b with
  | non =>
    have ew := h2.non
    subst ew
    left
    refine ⟨rfl, ?_⟩
    cases a with
    | non => have ev := h1.non; subst ev; simp only [isD] at e; cases e; rfl
    | _ =>
      have ne := h1.not_non (by intro z; cases z)
      simp only [isD] at e
      cases e
      exact (decide_eq_false ne).symm
  | bl y =>
    cases a with
    | bl x => simp only [isD] at e; cases e; exact .inr ⟨x, y, h1.bl, h2.bl, rfl⟩
    | _ => simp only [isD] at e; cases e
  | _ => cases a <;> (simp only [isD] at e; cases e)
theorem psem_is : PSem G (r2L (rIsA false)) gIs := fun F H vs ds d Q fh vw e q => by
  unfold gIs at e
  split at e
  · rename_i a b
    cases e1 : isD a b with
    | none => rw [e1] at e; cases e
    | some k =>
      rw [e1] at e
      cases e
      obtain ⟨v, w, rfl, h1, h2⟩ := vw.two
      refine ⟨v, w, rfl, ?_⟩
      rcases isD_vw e1 h1 h2 with ⟨z1, z2⟩ | ⟨x, y, z1, z2, z3⟩
      · subst z2; exact .inl ⟨z1, fin_flat fh q (by simpa using Rp.bl _)⟩
      · subst z3; exact .inr ⟨x, y, z1, z2, fin_flat fh q (by simpa using Rp.bl _)⟩
  · cases e
theorem psem_isNot : PSem G (r2L (rIsA true)) gIsNot := fun F H vs ds d Q fh vw e q => by
  unfold gIsNot at e
  split at e
  · rename_i a b
    cases e1 : isD a b with
    | none => rw [e1] at e; cases e
    | some k =>
      rw [e1] at e
      cases e
      obtain ⟨v, w, rfl, h1, h2⟩ := vw.two
      refine ⟨v, w, rfl, ?_⟩
      rcases isD_vw e1 h1 h2 with ⟨z1, z2⟩ | ⟨x, y, z1, z2, z3⟩
      · subst z2; exact .inl ⟨z1, fin_flat fh q (by simpa using Rp.bl _)⟩
      · subst z3; exact .inr ⟨x, y, z1, z2, fin_flat fh q (by simpa using Rp.bl _)⟩
  · cases e
end
end Dt
set_option Elab.async false
set_option linter.all false
set_option maxRecDepth 100000
set_option maxHeartbeats 2000000
namespace Dt
open PySem PySem.Spec PyProof.Rows L2
variable [HW]
def keyOf : D → Option Key
  | .int i => some (.inl i)
  | .str s => some (.inr s)
  | _ => none
def dLook : List Key → List D → Key → Option D
  | k :: ks, d :: ds, x => if k = x then some d else dLook ks ds x
  | _, _, _ => none
def flatD : D → Bool
  | .non => true
  | .bl _ => true
  | .int _ => true
  | .str _ => true
  | _ => false
def eqF : D → D → Bool
  | .non, .non => true
  | .bl a, .bl b => a == b
  | .bl a, .int b => (if a then 1 else 0) == b
  | .int a, .bl b => a == (if b then 1 else 0)
  | .int a, .int b => a == b
  | .str a, .str b => a == b
  | _, _ => false
section
variable {G : Gx} {K : PySem.W.Frag} {F H : Hp}
theorem keyOf_vw {v : V} {d : D} {k : Key} (h : Vw K F H v d) (e : keyOf d = some k) : v = kV k := by
  cases d with
  | int i => cases e; exact h.int
  | str i => cases e; exact h.str
  | _ => cases e
theorem dLook_val : ∀ {kvs : List (Key × V)} {ks : List Key} {ds : List D} (k : Key), kvs.map (·.1) = ks → Rps K F (kvs.map (·.2)) ds → (valV kvs k = none ∧ dLook ks ds k = none) ∨ ∃ v d, valV kvs k = some v ∧ dLook ks ds k = some d ∧ Rp K F v d
  | [], _, _, k, e, r => by
    subst e
    cases r
    exact .inl ⟨rfl, rfl⟩
  | (k0, v0) :: kvs, _, _, k, e, r => by
    subst e
    cases r with
    | cons a b =>
      by_cases hk : k0 = k
      · exact .inr ⟨v0, _, valV_pos (p := (k0, v0)) hk, by simp only [List.map_cons, dLook]; rw [if_pos hk], a⟩
      · have e1 : valV ((k0, v0) :: kvs) k = valV kvs k := valV_neg (p := (k0, v0)) hk
        simp only [List.map_cons, dLook]
        rw [e1, if_neg hk]
        exact dLook_val k rfl b
theorem flat_vw {v : V} {d : D} (h : Rp K F v d) (f : flatD d = true) : flatV v = true := by
  cases h <;> first | rfl | cases f
theorem eqF_vw {v w : V} {d e : D} (h1 : Rp K F v d) (h2 : Rp K F w e) (f1 : flatD d = true) (f2 : flatD e = true) : eqV v w = eqF d e := by
  cases h1 <;> first
    | (cases f1; done)
    | (cases h2 <;> first | (cases f2; done) | rfl)
theorem flats : ∀ {vs : List V} {ds : List D}, Rps K F vs ds → ds.all flatD = true → vs.all flatV = true
  | _, _, .nil, _ => rfl
  | _, _, .cons a b, h => by
    rw [List.all_cons, Bool.and_eq_true] at h
    rw [List.all_cons, flat_vw a h.1, flats b h.2]
    rfl
theorem inF : ∀ {vs : List V} {ds : List D} {x : V} {d : D}, Rps K F vs ds → Rp K F x d → ds.all flatD = true → flatD d = true → inV x vs = ds.any fun y => eqF y d
  | _, _, _, _, .nil, _, _, _ => rfl
  | _, _, _, _, .cons a b, r, h, f => by
    rw [List.all_cons, Bool.and_eq_true] at h
    have ih := inF b r h.2 f
    unfold inV at ih ⊢
    rw [List.any_cons, List.any_cons, eqF_vw a r h.1 f, ih]
theorem Vw.flat {v : V} {d : D} (h : Vw K F H v d) (f : flatD d = true) : Rp K F v d := by
  rcases h with h | ⟨_, _, _, _, h⟩
  · exact h
  · cases d <;> first | exact h.elim | cases f
/-- x in y -/
def inD (x y : D) : Option Bool := match y with
  | .lst ys => if (flatD x && ys.all flatD) = true then some (ys.any fun y => eqF y x) else none
  | .tup ys => if (flatD x && ys.all flatD) = true then some (ys.any fun y => eqF y x) else none
  | .arg ys => if (flatD x && ys.all flatD) = true then some (ys.any fun y => eqF y x) else none
  | .str j => match x with
    | .str i => some (!(Builtin.Str.occurrences j i 0 j.length 1).isEmpty)
    | _ => none
  | .dct ks ds => (keyOf x).map fun k => (dLook ks ds k).isSome
  | _ => none
def gIn : List D → Option D
  | [x, y] => (inD x y).map .bl
  | _ => none
def gNotIn : List D → Option D
  | [x, y] => (inD x y).map fun k => .bl (!k)
  | _ => none
def rInA (K : PySem.W.Frag) (neg : Bool) : R2 := fun x y H Q => rIn K neg x y H Q ∨ (∃ i j, x = .str i ∧ y = .str j ∧ Q (.bl (xor neg (!(Builtin.Str.occurrences j i 0 j.length 1).isEmpty))) H) ∨
  ∃ a o, y = .ref a ∧ DGet H a x o ∧ Q (.bl (xor neg o.isSome)) H
theorem op_inA {X : Cx} (hu : X.A.units + 64 < cLine) : OpR X (compareOp .In) (rInA X.K false) := by
  intro pins s σ H x y v u Q I rx ry h
  rcases h with h | ⟨i, j, h1, h2, h3⟩ | ⟨a, o, h1, h2, h3⟩
  · exact op_in_seq pins s σ H x y v u Q I rx ry h
  · exact op_in_str pins s σ H x y v u Q I rx ry ⟨i, j, h1, h2, by simpa using h3⟩
  · subst h1
    obtain rfl : u = Value.ref a := ry
    exact d_in (by omega) I h2 rx fun s' I' => ⟨.bl o.isSome, H, I', rfl, by simpa using h3⟩
theorem op_notInA {X : Cx} (hu : X.A.units + 64 < cLine) : OpR X (compareOp .NotIn) (rInA X.K true) := by
  intro pins s σ H x y v u Q I rx ry h
  rcases h with h | ⟨i, j, h1, h2, h3⟩ | ⟨a, o, h1, h2, h3⟩
  · exact op_notIn_seq pins s σ H x y v u Q I rx ry h
  · exact op_notIn_str pins s σ H x y v u Q I rx ry ⟨i, j, h1, h2, by simpa using h3⟩
  · subst h1
    obtain rfl : u = Value.ref a := ry
    exact d_notIn (by omega) I h2 rx fun s' I' => ⟨.bl (!o.isSome), H, I', rfl, by simpa using h3⟩
theorem inD_vw {Q : VK} {neg : Bool} {x y : V} {d e : D} {k : Bool} (fh : FLe F H) (h1 : Vw K F H x d) (h2 : Vw K F H y e) (q : inD d e = some k) (z : Q (.bl (xor neg k)) H) : rInA K neg x y H Q := by
  cases e with
  | lst ys =>
    simp only [inD] at q
    split at q
    · rename_i hf
      cases q
      rw [Bool.and_eq_true] at hf
      obtain ⟨a, xs, rfl, t, r⟩ := h2.lst fh
      have rx := h1.flat hf.1
      refine .inl ⟨a, xs, rfl, .inl (SqL.of t), flat_vw rx hf.1, flats r hf.2, ?_⟩
      rw [inF r rx hf.2 hf.1]
      cases neg <;> simpa using z
    · cases q
  | tup ys =>
    simp only [inD] at q
    split at q
    · rename_i hf
      cases q
      rw [Bool.and_eq_true] at hf
      obtain ⟨a, xs, rfl, t, r⟩ := h2.sqT fh
      have rx := h1.flat hf.1
      refine .inl ⟨a, xs, rfl, .inr t, flat_vw rx hf.1, flats r hf.2, ?_⟩
      rw [inF r rx hf.2 hf.1]
      cases neg <;> simpa using z
    · cases q
  | arg ys =>
    simp only [inD] at q
    split at q
    · rename_i hf
      cases q
      rw [Bool.and_eq_true] at hf
      obtain ⟨a, xs, rfl, t, r⟩ := h2.argT fh
      have rx := h1.flat hf.1
      refine .inl ⟨a, xs, rfl, .inr t, flat_vw rx hf.1, flats r hf.2, ?_⟩
      rw [inF r rx hf.2 hf.1]
      cases neg <;> simpa using z
    · cases q
  | str j =>
    cases d with
    | str i => simp only [inD] at q; cases q; exact .inr (.inl ⟨i, j, h1.str, h2.str, z⟩)
    | _ => simp only [inD] at q; cases q
  | dct ks ds =>
    simp only [inD] at q
    cases ek : keyOf d with
    | none => rw [ek] at q; cases q
    | some k' =>
      rw [ek] at q
      cases q
      obtain ⟨a, kvs, rfl, t, e1, r⟩ := h2.dct fh
      have ex := keyOf_vw h1 ek
      subst ex
      refine .inr (.inr ⟨a, valV kvs k', rfl, .inl ⟨kvs, k', t, rfl, rfl⟩, ?_⟩)
      have z : Q (.bl (xor neg (dLook ks ds k').isSome)) H := z
      rcases dLook_val k' e1 r with ⟨z1, z2⟩ | ⟨v, d', z1, z2, _⟩
      · rw [z1]; rw [z2] at z; exact z
      · rw [z1]; rw [z2] at z; exact z
  | _ => simp only [inD] at q; cases q
theorem psem_in : PSem G (r2L (rInA G.K false)) gIn := fun F H vs ds d Q fh vw e q => by
  unfold gIn at e
  split at e
  · rename_i a b
    cases e1 : inD a b with
    | none => rw [e1] at e; cases e
    | some k =>
      rw [e1] at e
      cases e
      obtain ⟨v, w, rfl, h1, h2⟩ := vw.two
      exact ⟨v, w, rfl, inD_vw fh h1 h2 e1 (fin_flat fh q (by simpa using Rp.bl _))⟩
  · cases e
theorem psem_notIn : PSem G (r2L (rInA G.K true)) gNotIn := fun F H vs ds d Q fh vw e q => by
  unfold gNotIn at e
  split at e
  · rename_i a b
    cases e1 : inD a b with
    | none => rw [e1] at e; cases e
    | some k =>
      rw [e1] at e
      cases e
      obtain ⟨v, w, rfl, h1, h2⟩ := vw.two
      exact ⟨v, w, rfl, inD_vw fh h1 h2 e1 (fin_flat fh q (by simpa using Rp.bl _))⟩
  · cases e
def idxD (x y : D) : Option D := match x with
  | .lst xs => match y with
    | .int i => atI xs i
    | _ => none
  | .tup xs => match y with
    | .int i => atI xs i
    | _ => none
  | .str z => match y with
    | .int i => if z.length ≤ sizeLine then (atI z.cps.toList i).map fun c => .str ⟨#[c]⟩ else none
    | _ => none
  | .dct ks ds => (keyOf y).bind fun k => dLook ks ds k
  | _ => none
def gIdx : List D → Option D
  | [x, y] => idxD x y
  | _ => none
theorem atI_rps {vs : List V} {ds : List D} {i : Int} {d : D} (r : Rps K F vs ds) (h : atI ds i = some d) : ∃ v, atI vs i = some v ∧ Rp K F v d := by
  unfold atI at h ⊢
  rw [r.length]
  cases e : ixN ds.length i with
  | none => rw [e] at h; cases h
  | some j =>
    rw [e] at h
    exact r.get h
def rIxA (K : PySem.W.Frag) : R2 := fun x y H Q => rIx K x y H Q ∨ ∃ a v, x = .ref a ∧ DGet H a y (some v) ∧ Q v H
theorem psem_idx : PSem G (r2L (rIxA G.K)) gIdx := fun F H vs ds d Q fh vw e q => by
  unfold gIdx at e
  split at e
  · rename_i x y
    obtain ⟨v, w, rfl, h1, h2⟩ := vw.two
    refine ⟨v, w, rfl, ?_⟩
    cases x with
    | lst xs =>
      cases y with
      | int i =>
        obtain ⟨a, zs, rfl, t, r⟩ := h1.lst fh
        obtain ⟨u, e1, rp⟩ := atI_rps r e
        exact .inl (.inl ⟨a, zs, i, u, rfl, h2.int, SqL.of t, e1, fin_flat fh q rp⟩)
      | _ => simp only [idxD] at e; cases e
    | tup xs =>
      cases y with
      | int i =>
        obtain ⟨a, zs, rfl, t, r⟩ := h1.sqT fh
        obtain ⟨u, e1, rp⟩ := atI_rps r e
        exact .inl (.inr (.inl ⟨a, zs, i, u, rfl, h2.int, t, e1, fin_flat fh q rp⟩))
      | _ => simp only [idxD] at e; cases e
    | str z =>
      cases y with
      | int i =>
        simp only [idxD] at e
        split at e
        · rename_i hz
          cases e1 : atI z.cps.toList i with
          | none => rw [e1] at e; cases e
          | some c => rw [e1] at e; cases e; exact .inl (.inr (.inr ⟨z, i, c, h1.str, h2.int, hz, e1, fin_flat fh q (.str _)⟩))
        · cases e
      | _ => simp only [idxD] at e; cases e
    | dct ks ds' =>
      simp only [idxD] at e
      cases ek : keyOf y with
      | none => rw [ek] at e; cases e
      | some k =>
        rw [ek] at e
        have e : dLook ks ds' k = some d := e
        obtain ⟨a, kvs, rfl, t, e1, r⟩ := h1.dct fh
        have ew := keyOf_vw h2 ek
        subst ew
        rcases dLook_val k e1 r with ⟨_, z2⟩ | ⟨u, d', z1, z2, rp⟩
        · rw [z2] at e; cases e
        · rw [z2] at e; cases e; exact .inr ⟨a, u, rfl, .inl ⟨kvs, k, t, rfl, z1.symm⟩, fin_flat fh q rp⟩
    | _ => simp only [idxD] at e; cases e
  · cases e
def r1L (r : V → Hp → VK → Prop) : RL := fun vs H Q => ∃ x, vs = [x] ∧ r x H Q
def gLen : List D → Option D
  | [.str s] => if s.length ≤ sizeLine then some (.int s.length) else none
  | [.tup xs] => some (.int xs.length)
  | [.lst xs] => some (.int xs.length)
  | [.dct ks _] => some (.int ks.length)
  | [.etup] => some (.int 0)
  | _ => none
def rLenA (K : PySem.W.Frag) : RL := fun xs H Q => (∃ x n, xs = [x] ∧ LenV K x H n ∧ Q (.int n) H) ∨ ∃ a kvs, xs = [V.ref a] ∧ Rd H a (.dK kvs) ∧ Q (.int kvs.length) H
theorem call_lenA {X : Cx} : CallR X (.builtin "len") (rLenA X.K) := by
  intro pins s σ H xs us Q I r h
  rcases h with h | ⟨a, kvs, rfl, ha, q⟩
  · exact call_len pins s σ H xs us Q I r h
  · obtain ⟨u, rfl, ru⟩ := vals1 r
    cases ru
    exact d_len I ha fun t s' I' => ⟨.int kvs.length, H, I', ⟨t, rfl⟩, q⟩
theorem psem_len : PSem G (rLenA G.K) gLen := fun F H vs ds d Q fh vw e q => by
  unfold gLen at e
  split at e
  · split at e
    · rename_i z hz
      cases e
      obtain ⟨v, rfl, h⟩ := vw.one
      have ev := h.str
      subst ev
      exact .inl ⟨_, _, rfl, ⟨hz, rfl⟩, fin_flat fh q (.int _)⟩
    · cases e
  · cases e
    obtain ⟨v, rfl, h⟩ := vw.one
    obtain ⟨a, xs, rfl, t, r⟩ := h.sqT fh
    exact .inl ⟨_, _, rfl, .inr ⟨xs, t, r.length.symm⟩, fin_flat fh q (.int _)⟩
  · cases e
    obtain ⟨v, rfl, h⟩ := vw.one
    obtain ⟨a, xs, rfl, t, r⟩ := h.lst fh
    exact .inl ⟨_, _, rfl, .inl ⟨xs, SqL.of t, r.length.symm⟩, fin_flat fh q (.int _)⟩
  · cases e
    obtain ⟨v, rfl, h⟩ := vw.one
    obtain ⟨a, kvs, rfl, t, e1, r⟩ := h.dct fh
    refine .inr ⟨a, kvs, rfl, t, fin_flat fh q ?_⟩
    rw [← e1, List.length_map]
    exact .int _
  · cases e
    obtain ⟨v, rfl, h⟩ := vw.one
    obtain ⟨a, rfl, t⟩ := h.etup
    exact .inl ⟨_, _, rfl, .inr ⟨[], t.sq H, rfl⟩, fin_flat fh q (.int _)⟩
  · cases e
def gInt : List D → Option D
  | [.int i] => some (.int i)
  | [.bl b] => some (.int (if b then 1 else 0))
  | _ => none
theorem psem_int : PSem G (fun xs H Q => (∃ i, xs = [V.int i] ∧ Q (.int i) H) ∨ ∃ k, xs = [V.bl k] ∧ Q (.int (if k then 1 else 0)) H) gInt := fun F H vs ds d Q fh vw e q => by
  unfold gInt at e
  split at e
  · cases e
    obtain ⟨v, rfl, h⟩ := vw.one
    exact .inl ⟨_, by rw [h.int], fin_flat fh q (.int _)⟩
  · cases e
    obtain ⟨v, rfl, h⟩ := vw.one
    exact .inr ⟨_, by rw [h.bl], fin_flat fh q (.int _)⟩
  · cases e
def gMax2 : List D → Option D
  | [.int i, .int j] => some (.int (if j > i then j else i))
  | _ => none
theorem psem_max2 : PSem G (fun xs H Q => ∃ i j, xs = [V.int i, V.int j] ∧ Q (.int (if j > i then j else i)) H) gMax2 := fun F H vs ds d Q fh vw e q => by
  unfold gMax2 at e
  split at e
  · cases e
    obtain ⟨v, w, rfl, h1, h2⟩ := vw.two
    exact ⟨_, _, by rw [h1.int, h2.int], fin_flat fh q (.int _)⟩
  · cases e
def gMin2 : List D → Option D
  | [.int i, .int j] => some (.int (if j < i then j else i))
  | _ => none
theorem psem_min2 : PSem G (fun xs H Q => ∃ i j, xs = [V.int i, V.int j] ∧ Q (.int (if j < i then j else i)) H) gMin2 := fun F H vs ds d Q fh vw e q => by
  unfold gMin2 at e
  split at e
  · cases e
    obtain ⟨v, w, rfl, h1, h2⟩ := vw.two
    exact ⟨_, _, by rw [h1.int, h2.int], fin_flat fh q (.int _)⟩
  · cases e
def blsOf : List D → Option (List Bool)
  | [] => some []
  | .bl i :: ds => (blsOf ds).map fun r => i :: r
  | _ => none
theorem bls_vw : ∀ {vs : List V} {ds : List D} {ns : List Bool}, Rps K F vs ds → blsOf ds = some ns → vs = ns.map V.bl
  | _, _, _, .nil, e => by simp only [blsOf] at e; cases e; rfl
  | _, _, _, .cons (d := d) (ds := ds) a b, e => by
    cases a with
    | bl i =>
      simp only [blsOf] at e
      cases e1 : blsOf ds with
      | none => rw [e1] at e; cases e
      | some r => rw [e1] at e; cases e; rw [List.map_cons, bls_vw b e1]
    | _ => simp only [blsOf] at e; cases e
def gAll : List D → Option D
  | [.lst xs] => (blsOf xs).map fun ns => .bl (ns.all id)
  | _ => none
theorem psem_all : PSem G (rAll G.K) gAll := fun F H vs ds d Q fh vw e q => by
  unfold gAll at e
  split at e
  · rename_i xs
    cases e1 : blsOf xs with
    | none => rw [e1] at e; cases e
    | some ns =>
      rw [e1] at e
      cases e
      obtain ⟨v, rfl, h⟩ := vw.one
      obtain ⟨a, zs, rfl, t, r⟩ := h.lst fh
      have ez := bls_vw r e1
      subst ez
      exact ⟨a, ns, rfl, SqL.of t, fin_flat fh q (.bl _)⟩
  · cases e
/-- a key as data -/
def keyD : Key → D
  | .inl i => .int i
  | .inr z => .str z
theorem rp_key (k : Key) : Rp K F (kV k) (keyD k) := by
  cases k with
  | inl i => exact .int i
  | inr z => exact .str z
theorem rps_keys : ∀ {kvs : List (Key × V)}, Rps K F (kvs.map fun kv => kV kv.1) ((kvs.map (·.1)).map keyD)
  | [] => .nil
  | kv :: kvs => .cons (rp_key kv.1) rps_keys
def rListA (K : PySem.W.Frag) : List V → Hp → VK → Prop := fun xs H Q => (∃ p ys, xs = [V.ref p] ∧ (SqL K H p ys ∨ SqT K H p ys) ∧ ∀ l, H l = none → Q (.ref l) (upd H l (.lst ys))) ∨
  ∃ (a : Addr) (kvs : List (Key × V)), xs = [V.ref a] ∧ Rd H a (.dK kvs) ∧ ∀ p, H p = none → Q (.ref p) (upd H p (.lst (kvs.map fun kv => kV kv.1)))
theorem call_listA {X : Cx} (calm : X.calm = true) : CallR X (.type "list") (rListA X.K) := by
  intro pins s σ H xs us Q I r h
  rcases h with h | h
  · exact call_list_of pins s σ H xs us Q I r h
  · exact call_listD calm pins s σ H xs us Q I r h
/-- list(..): a new list -/
def gList : List D → Option D
  | [.lst xs] => some (.lst xs)
  | [.tup xs] => some (.lst xs)
  | [.scr ns] => some (.lst (ns.map .int))
  | [.dct ks _] => some (.lst (ks.map keyD))
  | _ => none
theorem rps_ints : ∀ ns : List Int, Rps K F (ns.map V.int) (ns.map D.int)
  | [] => .nil
  | n :: ns => .cons (.int n) (rps_ints ns)
theorem fsem_list : FSem G (rListA G.K) gList := fun F H vs ds d Q fh vw e q => by
  unfold gList at e
  split at e
  · cases e
    obtain ⟨v, rfl, h⟩ := vw.one
    obtain ⟨a, zs, rfl, t, r⟩ := h.lst fh
    exact .inl ⟨a, zs, rfl, .inl (SqL.of t), fun l hl => q l _ hl ⟨_, rfl, r⟩⟩
  · cases e
    obtain ⟨v, rfl, h⟩ := vw.one
    obtain ⟨a, zs, rfl, t, r⟩ := h.sqT fh
    exact .inl ⟨a, zs, rfl, .inr t, fun l hl => q l _ hl ⟨_, rfl, r⟩⟩
  · rename_i ns
    cases e
    obtain ⟨v, rfl, h⟩ := vw.one
    rcases h with h | ⟨_, _, _, _, h⟩
    · cases h with
      | scr t => exact .inl ⟨_, _, rfl, .inl (fh.sqL t), fun l hl => q l _ hl ⟨_, rfl, rps_ints ns⟩⟩
    · exact h.elim
  · cases e
    obtain ⟨v, rfl, h⟩ := vw.one
    obtain ⟨a, kvs, rfl, rd, rfl, r⟩ := h.dct fh
    exact .inr ⟨a, kvs, rfl, rd, fun l hl => q l _ hl ⟨_, rfl, rps_keys⟩⟩
  · cases e
def gTuple : List D → Option D
  | [.lst xs] => some (.tup xs)
  | [.tup xs] => some (.tup xs)
  | _ => none
theorem psem_tuple : PSem G (fun xs H Q => ∃ p ys, xs = [V.ref p] ∧ ((SqL G.K H p ys ∧ NewT H ys Q) ∨ (SqT G.K H p ys ∧ Q (.ref p) H))) gTuple := fun F H vs ds d Q fh vw e q => by
  unfold gTuple at e
  split at e
  · cases e
    obtain ⟨v, rfl, h⟩ := vw.one
    obtain ⟨a, zs, rfl, t, r⟩ := h.lst fh
    exact ⟨a, zs, rfl, .inl ⟨SqL.of t, fun l o hl ho => q _ _ _ (New.obj fh hl _) (.tup (.new ho) (r.mono (FLe.upd _ (fh.noneOf hl))))⟩⟩
  · cases e
    obtain ⟨v, rfl, h⟩ := vw.one
    obtain ⟨a, zs, rfl, t, r⟩ := h.sqT fh
    rcases h with h | ⟨_, _, _, _, h⟩
    · exact ⟨a, zs, rfl, .inr ⟨t, fin_flat fh q h⟩⟩
    · exact h.elim
  · cases e
def rSlAll (K : PySem.W.Frag) : V → Option Int → Option Int → Hp → VK → Prop := fun x lo hi H Q => rSlZ K x lo hi H Q ∨ (rSlS x lo hi H Q ∨ rSlL K x lo hi H Q)
theorem sl_all {X : Cx} : SlR X (rSlAll X.K) := sl_tupZ.or (sl_str.or sl_list)
def cutD (xs : List D) (lo hi : Option Int) : List D := (xs.drop (HT.sIx xs.length 0 lo)).take (HT.sIx xs.length xs.length hi - HT.sIx xs.length 0 lo)
def sliceD (x : D) (lo hi : Option Int) : Option D := match x with
  | .tup xs => some (.tup (cutD xs lo hi))
  | .lst xs => some (.lst (cutD xs lo hi))
  | .str z => if z.length ≤ sizeLine then some (.str (cutS z lo hi)) else none
  | _ => none
theorem cut_rps {vs : List V} {ds : List D} (r : Rps K F vs ds) (lo hi : Option Int) : Rps K F (cutV vs lo hi) (cutD ds lo hi) := by
  unfold cutV cutD
  rw [r.length]
  exact (r.drop _).take _
theorem slice_vw {x : V} {d e : D} {lo hi : Option Int} {Q : VK} (fh : FLe F H) (h : Vw G.K F H x d) (s : sliceD d lo hi = some e) (q : ∀ v H' F', New F H F' H' → Rp G.K F' v e → Q v H') : rSlAll G.K x lo hi H Q := by
  cases d with
  | tup xs =>
    cases s
    obtain ⟨a, zs, rfl, t, r⟩ := h.sqT fh
    refine .inl ⟨a, zs, rfl, t, fun z => ?_, fun z p o hp ho => q _ _ _ (New.obj fh hp _) (.tup (.new ho) ((cut_rps r lo hi).mono (FLe.upd _ (fh.noneOf hp))))⟩
    have ec : cutD xs lo hi = xs := by
      unfold cutD
      rw [← r.length, z.1, z.2]
      simp [r.length]
    rw [ec] at q
    rcases h with h | ⟨_, _, _, _, h⟩
    · exact fin_flat fh q h
    · exact h.elim
  | lst xs =>
    cases s
    obtain ⟨a, zs, rfl, t, r⟩ := h.lst fh
    exact .inr (.inr ⟨a, zs, rfl, SqL.of t, fun p hp => q _ _ _ (New.obj fh hp _) (.lst upd_same ((cut_rps r lo hi).mono (FLe.upd _ (fh.noneOf hp))))⟩)
  | str z =>
    simp only [sliceD] at s
    split at s
    · rename_i hz
      cases s
      exact .inr (.inl ⟨z, h.str, hz, fin_flat fh q (.str _)⟩)
    · cases s
  | _ => simp only [sliceD] at s; cases s
def tyN : D → String
  | .non => "NoneType"
  | .bl _ => "bool"
  | .int _ => "int"
  | .str _ => "str"
  | .tup _ => "tuple"
  | .lst _ => "list"
  | .dct _ _ => "dict"
  | .scr _ => "list"
  | .arg _ => "tuple"
  | .fn _ => "NoneType"
  | .exn _ => "NoneType"
  | .xv _ => "NoneType"
  | .xm _ _ => "NoneType"
  | .tal _ => "NoneType"
  | .etup => "tuple"
  | .nd _ _ => "dict"
/-- a def as a value: its type is not asked -/
def D.isFn : D → Bool
  | .fn _ => true
  | .exn _ => true
  | .xv _ => true
  | .xm _ _ => true
  | .tal _ => true
  | .nd _ _ => true
  | _ => false
theorem ty_vw {v : V} {d : D} (fh : FLe F H) (h : Vw K F H v d) (hd : d.isFn = false) : TyX K H v (.type (tyN d)) := by
  rcases h with h | ⟨p, o, rfl, h1, h2⟩
  · cases h with
    | fn _ => cases hd
    | exn _ => cases hd
    | xv _ _ => cases hd
    | xm _ _ _ _ => cases hd
    | tal _ _ => cases hd
    | etup t => obtain ⟨n, sl, e⟩ := t; exact .kTuple e rfl
    | nd _ _ _ _ => cases hd
    | non => exact .base .non
    | bl b => exact .base (.bl b)
    | int b => exact .base (.int b)
    | str b => exact .base (.str b)
    | arg t r =>
      rcases fh.sqT t with (t | ⟨o, t⟩) | ⟨o, its, n, hk, hc, _⟩
      · exact .base (.tup t)
      · exact .fTuple t
      · exact .kTuple hk hc
    | tup t r =>
      rcases fh.sqT (t.sq (K := K)) with (t | ⟨o, t⟩) | ⟨o, its, n, hk, hc, _⟩
      · exact .base (.tup t)
      · exact .fTuple t
      · exact .kTuple hk hc
    | lst t r => exact .base (.lst (fh _ _ t))
    | dct t r => exact .fDict (fh _ _ t)
    | scr t =>
      rcases fh.sqL t with (t | ⟨o, t⟩) | ⟨o, its, n, hk, hc, _⟩
      · exact .base (.lst t)
      · exact .base (.frz t)
      · exact .kList hk hc
  · cases d with
    | lst ds => obtain ⟨xs, rfl, _⟩ := h2; exact .base (.lst h1)
    | dct ks ds => obtain ⟨kvs, rfl, _⟩ := h2; exact .base (.dK h1)
    | nd ks ds => cases hd
    | tal _ => cases hd
    | _ => exact h2.elim
end
end Dt
set_option Elab.async false
set_option linter.all false
set_option maxRecDepth 100000
set_option maxHeartbeats 2000000
namespace Dt
open PySem PySem.Spec PyProof.Rows L2
variable [HW]
section
variable {K : PySem.W.Frag} {ex : Exx} {X : Cx} {W : WX} {σ : L2.St} {H : Hp}
abbrev GK (X : Cx) (ex : Exx) : Gx := ⟨X.K, ex⟩
theorem tO_mono {G : Gx} {s : SO} {Q Q' : VK} (h : tO G W s σ H Q) (w : ∀ v H, Q v H → Q' v H) : tO G W s σ H Q' := by
  obtain ⟨ρ, F, Rv, io, rel, q⟩ := h
  refine ⟨ρ, F, Rv, io, rel, ?_⟩
  revert q
  cases s ρ with
  | stuck => exact fun q => q
  | exc x ρ' => exact fun q => q
  | ok o ρ' => exact fun q v H' F' le rel' r => w v H' (q v H' F' le rel' r)
theorem tE_mono {G : Gx} {s : SE} {Q Q' : VK} (h : tE G W s σ H Q) (w : ∀ v H, Q v H → Q' v H) : tE G W s σ H Q' := by
  obtain ⟨ρ, F, Rv, io, rel, q⟩ := h
  refine ⟨ρ, F, Rv, io, rel, ?_⟩
  revert q
  cases s ρ with
  | stuck => exact fun q => q
  | exc x ρ' => exact fun q => q
  | ok o ρ' => exact fun q v H' F' le rel' r => w v H' (q v H' F' le rel' r)
theorem two_ops {G : Gx} {r : R2} {g : List D → Option D} {sa sb : SO} {Q : VK} (hg : PSem G (r2L r) g) (h : tE G W (sOps g (b2 sa sb)) σ H Q) : tO G W sa σ H fun x H1 => tO G W sb σ H1 fun y H2 => r x y H2 Q :=
  tO_mono (two_core (a := .Name Str.empty ⟨0, 0, 0, 0⟩) (b := .Name Str.empty ⟨0, 0, 0, 0⟩) (ops_core hg h)) fun x H1 z => tO_mono z fun y H2 ⟨x', y', e, z'⟩ => by cases e; exact z'
theorem one_ops {G : Gx} {r : V → Hp → VK → Prop} {g : List D → Option D} {sa : SO} {Q : VK} (hg : PSem G (r1L r) g) (h : tE G W (sOps g (b1 sa)) σ H Q) : tO G W sa σ H fun x H1 => r x H1 Q :=
  tO_mono (one_core (ops_core hg h)) fun x H1 ⟨x', e, z'⟩ => by cases e; exact z'
variable {a b c : Expr} {pos : Pos} {sa sb sc : SO}
/-- a op b -/
theorem d_op {op : Operator} {r : R2} {g : List D → Option D} (ho : OpR X (binaryOp op) r) (hg : PSem (GK X ex) (r2L r) g) (ha : DO (GK X ex) X W a sa) (hb : DO (GK X ex) X W b sb) : DE (GK X ex) X W (.BinOp a op b pos) (sOps g (b2 sa sb)) :=
  wkE (pe_op ho ha hb) fun σ H Q h => two_ops hg h
theorem d_add (ha : DO (GK X ex) X W a sa) (hb : DO (GK X ex) X W b sb) : DE (GK X ex) X W (.BinOp a .Add b pos) (sOps gAdd (b2 sa sb)) := d_op op_addAll psem_add ha hb
theorem d_sub (ha : DO (GK X ex) X W a sa) (hb : DO (GK X ex) X W b sb) : DE (GK X ex) X W (.BinOp a .Sub b pos) (sOps gSub (b2 sa sb)) := d_op op_sub psem_sub ha hb
theorem d_mul (ha : DO (GK X ex) X W a sa) (hb : DO (GK X ex) X W b sb) : DE (GK X ex) X W (.BinOp a .Mult b pos) (sOps gMul (b2 sa sb)) := d_op op_mulAll psem_mul ha hb
theorem d_div (ha : DO (GK X ex) X W a sa) (hb : DO (GK X ex) X W b sb) : DE (GK X ex) X W (.BinOp a .FloorDiv b pos) (sOps gDiv (b2 sa sb)) := d_op op_fdivW psem_div ha hb
theorem d_mod (ha : DO (GK X ex) X W a sa) (hb : DO (GK X ex) X W b sb) : DE (GK X ex) X W (.BinOp a .Mod b pos) (sOps gMod (b2 sa sb)) := d_op op_mod psem_mod ha hb
theorem d_pow (ha : DO (GK X ex) X W a sa) (hb : DO (GK X ex) X W b sb) : DE (GK X ex) X W (.BinOp a .Pow b pos) (sOps gPow (b2 sa sb)) := d_op op_pow psem_pow ha hb
theorem d_neg (ha : DO (GK X ex) X W a sa) : DE (GK X ex) X W (.UnaryOp .USub a pos) (sOps gNeg (b1 sa)) :=
  wkE (pe_un un_neg ha) fun σ H Q h => one_ops (r := rU fun i => .int (-i)) psem_neg h
def sTst (s : SE) : ST := fun ρ => (s ρ).bind fun d ρ' => match d with
  | .bl k => .ok k ρ'
  | _ => .stuck
theorem tst_core {G : Gx} {s : SE} {Q : Bool → Hp → Prop} (h : tT G W (sTst s) σ H Q) : tE G W s σ H fun x H' => ∃ k, x = .bl k ∧ Q k H' := by
  obtain ⟨ρ, F, Rv, io, rel, q⟩ := h
  refine ⟨ρ, F, Rv, io, rel, ?_⟩
  unfold sTst at q
  cases e : s ρ with
  | stuck => rw [e] at q; exact q.elim
  | exc x ρ' => rw [e] at q; exact q
  | ok d ρ' =>
    rw [e, R.bind_ok] at q
    cases d with
    | bl k => intro v H' F' le rel' r; cases r; exact ⟨k, rfl, q H' F' le rel'⟩
    | _ => exact q.elim
theorem d_cmp {op : CmpOp} {r : R2} {g : List D → Option D} (ho : OpR X (compareOp op) r) (hg : PSem (GK X ex) (r2L r) g) (ha : DO (GK X ex) X W a sa) (hb : DO (GK X ex) X W b sb) (hm : behindInMarks op b = false) : DE (GK X ex) X W (.Compare a [op] [b] pos) (sOps g (b2 sa sb)) :=
  wkE (pe_cmpR ho ha hb hm) fun σ H Q h => two_ops hg h
theorem d_tcmp {op : CmpOp} {r : R2} {g : List D → Option D} (ho : OpR X (compareOp op) r) (hg : PSem (GK X ex) (r2L r) g) (ha : DO (GK X ex) X W a sa) (hb : DO (GK X ex) X W b sb) (hm : behindInMarks op b = false) : DT (GK X ex) X W (.Compare a [op] [b] pos) (sTst (sOps g (b2 sa sb))) :=
  wkT (pt_cmpR ho ha hb hm) fun σ H Q h => two_ops hg (tst_core h)
/-- a op1 b op2 c; b is a value that is looked at once -/
def sChain (g g' : List D → Option D) (sa sb sc : SO) : SE := fun ρ => (sa ρ).bind fun x ρ1 => (sb ρ1).bind fun y ρ2 => (ofO ((getAll ρ2 [x, y]).bind g) ρ2).bind fun z ρ2 => match z with
  | .bl true => (sc ρ2).bind fun w ρ3 => ofO ((getAll ρ3 [y, w]).bind g') ρ3
  | .bl false => .ok (.bl false) ρ2
  | _ => .stuck
theorem chain_core {G : Gx} {r r' : R2} {g g' : List D → Option D} (hg : PSem G (r2L r) g) (hg' : PSem G (r2L r') g') {Q : VK} (h : tE G W (sChain g g' sa sb sc) σ H Q) : tChain r r' (tO G W sa) (tO G W sb) (tO G W sc) σ H Q := by
  obtain ⟨ρ, F, Rv, io, rel, q⟩ := h
  refine ⟨ρ, F, Rv, io, rel, ?_⟩
  unfold sChain at q
  cases e : sa ρ with
  | stuck => rw [e] at q; exact q.elim
  | exc x ρ' => rw [e] at q; exact q
  | ok x ρ1 =>
    rw [e, R.bind_ok] at q
    refine fun v H1 F1 le1 rel1 ok1 => ⟨ρ1, F1, Rv, io, rel1, ?_⟩
    cases e2 : sb ρ1 with
    | stuck => rw [e2] at q; exact q.elim
    | exc x ρ' => rw [e2] at q; exact XPost.le q le1
    | ok y ρ2 =>
      rw [e2, R.bind_ok] at q
      refine fun w H2 F2 le2 rel2 ok2 => ?_
      cases e3 : getAll ρ2 [x, y] with
      | none => rw [e3] at q; exact q.elim
      | some ds =>
        rw [e3, Option.bind_some] at q
        cases e4 : g ds with
        | none => rw [e4] at q; exact q.elim
        | some z =>
          rw [e4] at q
          have vw := rel2.views (.cons (ok1.mono le2) (.cons ok2 .nil)) e3
          obtain ⟨_, _, e5, z5⟩ := hg F2 H2 [v, w] ds z (fun zv H3 => ∃ k, zv = .bl k ∧ if k = true then tO G W sc σ H3 (fun w' H4 => r' w w' H4 Q) else Q (.bl false) H3) rel2.fH vw e4 (by
            intro zv H3 F3 n rp
            cases z with
            | bl k =>
              cases rp
              refine ⟨k, rfl, ?_⟩
              have rel3 := rel2.after n
              cases k with
              | false => exact iteF (q _ H3 F3 ((le1.trans le2).trans n.f) rel3 (.bl false))
              | true =>
                refine iteT ⟨ρ2, F3, Rv, io, rel3, ?_⟩
                simp only [ofO, R.bind_ok] at q
                cases e6 : sc ρ2 with
                | stuck => rw [e6] at q; exact q.elim
                | exc x ρ' => rw [e6] at q; exact XPost.le q ((le1.trans le2).trans n.f)
                | ok u ρ3 =>
                  rw [e6, R.bind_ok] at q
                  refine fun w' H4 F4 le4 rel4 ok4 => ?_
                  cases e7 : getAll ρ3 [y, u] with
                  | none => rw [e7] at q; exact q.elim
                  | some ds' =>
                    rw [e7, Option.bind_some] at q
                    cases e8 : g' ds' with
                    | none => rw [e8] at q; exact q.elim
                    | some z' =>
                      rw [e8] at q
                      have vw' := rel4.views (.cons (ok2.mono (n.f.trans le4)) (.cons ok4 .nil)) e7
                      obtain ⟨_, _, e9, z9⟩ := hg' F4 H4 [w, w'] ds' z' Q rel4.fH vw' e8 fun zv H5 F5 n5 rp5 => q zv H5 F5 ((((le1.trans le2).trans n.f).trans le4).trans n5.f) (rel4.after n5) rp5
                      cases e9; exact z9
            | _ => exact q.elim)
          cases e5; exact z5
theorem d_chain {op op' : CmpOp} {r r' : R2} {g g' : List D → Option D} (ho : OpR X (compareOp op) r) (ho' : OpR X (compareOp op') r') (hg : PSem (GK X ex) (r2L r) g) (hg' : PSem (GK X ex) (r2L r') g') (ha : DO (GK X ex) X W a sa) (hb : DO (GK X ex) X W b sb) (hc : DO (GK X ex) X W c sc)
    (hm : lastMarks [op, op'] [b, c] = false := by with_unfolding_all rfl) : DE (GK X ex) X W (.Compare a [op, op'] [b, c] pos) (sChain g g' sa sb sc) :=
  wkE (pe_chain ho ho' ha hb hc hm) fun σ H Q h => chain_core hg hg' h
def D.truth : D → Option Bool
  | .non => some false
  | .bl b => some b
  | .int i => some (i != 0)
  | .str s => if s.length ≤ sizeLine then some ((s.length : Int) != 0) else none
  | .tup xs => some (!xs.isEmpty)
  | .lst xs => some (!xs.isEmpty)
  | .etup => some false
  | _ => none
theorem isEmpty_rps {F : Hp} {vs : List V} {ds : List D} (r : Rps K F vs ds) : vs.isEmpty = ds.isEmpty := by cases r <;> rfl
theorem Vw.truth {F : Hp} {v : V} {d : D} {k : Bool} (fh : FLe F H) (h : Vw K F H v d) (e : d.truth = some k) : TruV K v H k := by
  cases d with
  | non => cases e; have := h.non; subst this; rfl
  | bl b => cases e; have := h.bl; subst this; rfl
  | int i => cases e; have := h.int; subst this; rfl
  | str z =>
    simp only [D.truth] at e
    split at e
    · rename_i hz; cases e; have := h.str; subst this; exact ⟨hz, rfl⟩
    · cases e
  | tup xs => cases e; obtain ⟨a, zs, rfl, t, r⟩ := h.sqT fh; exact .inr (.inl ⟨zs, t, by rw [isEmpty_rps r]⟩)
  | lst xs => cases e; obtain ⟨a, zs, rfl, t, r⟩ := h.lst fh; exact .inl ⟨zs, SqL.of t, by rw [isEmpty_rps r]⟩
  | etup => cases e; obtain ⟨a, rfl, t⟩ := h.etup; exact .inr (.inl ⟨[], t.sq H, rfl⟩)
  | _ => simp only [D.truth] at e; cases e
def sTru (s : SO) : ST := fun ρ => (s ρ).bind fun o ρ' => ofO ((o.get ρ').bind D.truth) ρ'
theorem tru_core {G : Gx} {s : SO} {Q : Bool → Hp → Prop} (h : tT G W (sTru s) σ H Q) : tO G W s σ H fun x H' => ∃ k, TruV G.K x H' k ∧ Q k H' := by
  obtain ⟨ρ, F, Rv, io, rel, q⟩ := h
  refine ⟨ρ, F, Rv, io, rel, ?_⟩
  unfold sTru at q
  cases e : s ρ with
  | stuck => rw [e] at q; exact q.elim
  | exc x ρ' => rw [e] at q; exact q
  | ok o ρ' =>
    rw [e, R.bind_ok] at q
    intro v H' F' le rel' ok
    cases e1 : o.get ρ' with
    | none => rw [e1] at q; exact q.elim
    | some d =>
      rw [e1, Option.bind_some] at q
      cases e2 : d.truth with
      | none => rw [e2] at q; exact q.elim
      | some k => rw [e2] at q; exact ⟨k, (rel'.view ok e1).truth rel'.fH e2, q H' F' le rel'⟩
/-- any expression as a test, by its truth -/
theorem d_tru (ha : DO (GK X ex) X W a sa) (he : ∀ whole, isTrue a X.env whole = (do let v ← whole; standAt a.pos; holding [v] (truthy v)) := by intro _; rfl) : DT (GK X ex) X W a (sTru sa) :=
  wkT (pt_truth ha he) fun σ H Q h => tru_core h
def tAndS (s t : ST) : ST := fun ρ => (s ρ).bind fun k ρ' => match k with
  | true => t ρ'
  | false => .ok false ρ'
def tOrS (s t : ST) : ST := fun ρ => (s ρ).bind fun k ρ' => match k with
  | true => .ok true ρ'
  | false => t ρ'
def tNotS (s : ST) : ST := fun ρ => (s ρ).bind fun k ρ' => .ok (!k) ρ'
abbrev DW (G : Gx) (X : Cx) (W : WX) (e : Expr) (s : ST) : Prop := PW X e (tT G W s)
theorem wkW {X : Cx} {e : Expr} {t u : TT} (h : PW X e t) (w : ∀ σ H Q, u σ H Q → t σ H Q) : PW X e u := ⟨fun wh pins s σ H Q I q => h.run wh pins s σ H Q I (w σ H Q q)⟩
theorem and_core {G : Gx} {s t : ST} {Q : Bool → Hp → Prop} (h : tT G W (tAndS s t) σ H Q) : tAnd (tT G W s) (tT G W t) σ H Q := by
  obtain ⟨ρ, F, Rv, io, rel, q⟩ := h
  refine ⟨ρ, F, Rv, io, rel, ?_⟩
  unfold tAndS at q
  cases e : s ρ with
  | stuck => rw [e] at q; exact q.elim
  | exc x ρ' => rw [e] at q; exact q
  | ok k ρ' =>
    rw [e, R.bind_ok] at q
    intro H' F' le rel'
    cases k with
    | false => exact iteF (q H' F' le rel')
    | true =>
      refine iteT ⟨ρ', F', Rv, io, rel', ?_⟩
      revert q
      show (match t ρ' with | .ok b ρ'' => _ | .exc x ρ'' => _ | .stuck => False) → _
      cases t ρ' with
      | stuck => exact fun q => q
      | exc x ρ'' => exact fun q => XPost.le q le
      | ok k2 ρ'' => exact fun q H2 F2 le2 rel2 => q H2 F2 (le.trans le2) rel2
theorem or_core {G : Gx} {s t : ST} {Q : Bool → Hp → Prop} (h : tT G W (tOrS s t) σ H Q) : tOr (tT G W s) (tT G W t) σ H Q := by
  obtain ⟨ρ, F, Rv, io, rel, q⟩ := h
  refine ⟨ρ, F, Rv, io, rel, ?_⟩
  unfold tOrS at q
  cases e : s ρ with
  | stuck => rw [e] at q; exact q.elim
  | exc x ρ' => rw [e] at q; exact q
  | ok k ρ' =>
    rw [e, R.bind_ok] at q
    intro H' F' le rel'
    cases k with
    | true => exact iteT (q H' F' le rel')
    | false =>
      refine iteF ⟨ρ', F', Rv, io, rel', ?_⟩
      revert q
      show (match t ρ' with | .ok b ρ'' => _ | .exc x ρ'' => _ | .stuck => False) → _
      cases t ρ' with
      | stuck => exact fun q => q
      | exc x ρ'' => exact fun q => XPost.le q le
      | ok k2 ρ'' => exact fun q H2 F2 le2 rel2 => q H2 F2 (le.trans le2) rel2
variable {s t : ST} {rest : List Expr}
theorem d_wand1 (h : DT (GK X ex) X W a s) : DW (GK X ex) X W (.BoolOp .And [a] pos) s := pw_and1 h
theorem d_wor1 (h : DT (GK X ex) X W a s) : DW (GK X ex) X W (.BoolOp .Or [a] pos) s := pw_or1 h
theorem d_wand (h : DT (GK X ex) X W a s) (h2 : DW (GK X ex) X W (.BoolOp .And (b :: rest) pos) t) : DW (GK X ex) X W (.BoolOp .And (a :: b :: rest) pos) (tAndS s t) := wkW (pw_and h h2) fun σ H Q q => and_core q
theorem d_wor (h : DT (GK X ex) X W a s) (h2 : DW (GK X ex) X W (.BoolOp .Or (b :: rest) pos) t) : DW (GK X ex) X W (.BoolOp .Or (a :: b :: rest) pos) (tOrS s t) := wkW (pw_or h h2) fun σ H Q q => or_core q
theorem d_tnot (h : DT (GK X ex) X W a s) : DT (GK X ex) X W (.UnaryOp .Not a pos) (tNotS s) := wkT (pt_not h) fun σ H Q q => by
  obtain ⟨ρ, F, Rv, io, rel, q⟩ := q
  refine ⟨ρ, F, Rv, io, rel, ?_⟩
  unfold tNotS at q
  cases e : s ρ with
  | stuck => rw [e] at q; exact q.elim
  | exc x ρ' => rw [e] at q; exact q
  | ok k ρ' => rw [e] at q; exact q
/-- .. as values: by truth -/
def sAnd (s t : SE) : SE := fun ρ => (s ρ).bind fun d ρ' => match d.truth with
  | some true => t ρ'
  | some false => .ok d ρ'
  | none => .stuck
def sOr (s t : SE) : SE := fun ρ => (s ρ).bind fun d ρ' => match d.truth with
  | some true => .ok d ρ'
  | some false => t ρ'
  | none => .stuck
def sNot (s : SO) : SE := fun ρ => (sTru s ρ).bind fun k ρ' => .ok (.bl (!k)) ρ'
variable {ea eb : SE}
theorem d_one {op} (h : DE (GK X ex) X W a ea) : DE (GK X ex) X W (.BoolOp op [a] pos) ea := pe_one h
theorem d_and (ha : DE (GK X ex) X W a ea) (hb : DE (GK X ex) X W (.BoolOp .And (b :: rest) pos) eb) : DE (GK X ex) X W (.BoolOp .And (a :: b :: rest) pos) (sAnd ea eb) := wkE (pe_andT ha hb) fun σ H Q h => by
  obtain ⟨ρ, F, Rv, io, rel, q⟩ := h
  refine ⟨ρ, F, Rv, io, rel, ?_⟩
  unfold sAnd at q
  cases e : ea ρ with
  | stuck => rw [e] at q; exact q.elim
  | exc x ρ' => rw [e] at q; exact q
  | ok d ρ' =>
    rw [e, R.bind_ok] at q
    intro v H' F' le rel' rp
    cases e2 : d.truth with
    | none => rw [e2] at q; exact q.elim
    | some k =>
      rw [e2] at q
      refine ⟨k, Vw.truth rel'.fH (.inl rp) e2, ?_⟩
      cases k with
      | false => exact iteF (q v H' F' le rel' rp)
      | true =>
        refine iteT ⟨ρ', F', Rv, io, rel', ?_⟩
        revert q
        show (match eb ρ' with | .ok b ρ'' => _ | .exc x ρ'' => _ | .stuck => False) → _
        cases eb ρ' with
        | stuck => exact fun q => q
        | exc x ρ'' => exact fun q => XPost.le q le
        | ok k2 ρ'' => exact fun q => EPost.le q le
theorem d_not (ha : DO (GK X ex) X W a sa) : DE (GK X ex) X W (.UnaryOp .Not a pos) (sNot sa) := wkE (pe_notT ha) fun σ H Q h => by
  refine tru_core (Q := fun k H1 => Q (.bl (!k)) H1) ?_
  obtain ⟨ρ, F, Rv, io, rel, q⟩ := h
  refine ⟨ρ, F, Rv, io, rel, ?_⟩
  unfold sNot at q
  cases e : sTru sa ρ with
  | stuck => rw [e] at q; exact q.elim
  | exc x ρ' => rw [e] at q; exact q
  | ok d ρ' => rw [e] at q; exact fun H' F' le rel' => q _ H' F' le rel' (.bl _)
/-- a if t else b -/
def sIf (t : ST) (a b : SE) : SE := fun ρ => (t ρ).bind fun k ρ' => match k with
  | true => a ρ'
  | false => b ρ'
theorem d_if (hc : DT (GK X ex) X W c t) (ha : DE (GK X ex) X W a ea) (hb : DE (GK X ex) X W b eb) : DE (GK X ex) X W (.IfExp c a b pos) (sIf t ea eb) := wkE (pe_ifExp hc ha hb) fun σ H Q h => by
  obtain ⟨ρ, F, Rv, io, rel, q⟩ := h
  refine ⟨ρ, F, Rv, io, rel, ?_⟩
  unfold sIf at q
  cases e : t ρ with
  | stuck => rw [e] at q; exact q.elim
  | exc x ρ' => rw [e] at q; exact q
  | ok k ρ' =>
    rw [e, R.bind_ok] at q
    intro H' F' le rel'
    cases k with
    | true =>
      refine iteT ⟨ρ', F', Rv, io, rel', ?_⟩
      revert q
      show (match ea ρ' with | .ok b ρ'' => _ | .exc x ρ'' => _ | .stuck => False) → _
      cases ea ρ' with
      | stuck => exact fun q => q
      | exc x ρ'' => exact fun q => XPost.le q le
      | ok k2 ρ'' => exact fun q => EPost.le q le
    | false =>
      refine iteF ⟨ρ', F', Rv, io, rel', ?_⟩
      revert q
      show (match eb ρ' with | .ok b ρ'' => _ | .exc x ρ'' => _ | .stuck => False) → _
      cases eb ρ' with
      | stuck => exact fun q => q
      | exc x ρ'' => exact fun q => XPost.le q le
      | ok k2 ρ'' => exact fun q => EPost.le q le
end
end Dt
set_option Elab.async false
set_option linter.all false
set_option maxRecDepth 100000
set_option maxHeartbeats 2000000
namespace Dt
open PySem PySem.Spec PyProof.Rows L2
variable [HW]
section
variable {ex : Exx} {X : Cx} {W : WX} {σ : L2.St} {H : Hp} {a b c e : Expr} {es : List Expr} {pos p : Pos} {sa sb sc : SO} {ea eb : SE} {sB : SB} {sA : SA} {x : Str} {id : String}
theorem ix_dct {X : Cx} (hu : X.A.units + 64 < cLine) : IxR X (fun x y H Q => ∃ a v, x = .ref a ∧ DGet H a y (some v) ∧ Q v H) := by
  intro value slice pins s σ H x y v u Q I rx ry h hs
  obtain ⟨a, w, rfl, g, q⟩ := h
  obtain rfl : v = Value.ref a := rx
  exact tail_any (ops := [.ref a, u]) (dict_typeIs I g) PySem.F.slot_dict_getitem.lookup (d_getItem (by omega) I g ry fun w' s3 I3 rw' => ⟨w, H, I3, rw', q⟩) hs
theorem d_idx (hu : At X W) (ha : DO (GK X ex) X W a sa) (hb : DO (GK X ex) X W b sb) (hs : PlainIx b := by intro _ _; rfl) : DE (GK X ex) X W (.Subscript a b pos) (sOps gIdx (b2 sa sb)) :=
  wkE (pe_ix (ix_seq.or (ix_dct hu.un)) ha hb hs) fun σ H Q h => two_ops (r := rIxA X.K) psem_idx h
/-- a part of a slice -/
abbrev SP' := Env → R (Option Int)
def tP (G : Gx) (W : WX) (s : SP') : TO := fun σ H Q => ∃ ρ F Rv, ∃ io : Io G.ex.tabs, Rel G.K io Rv ρ F σ H ∧ match s ρ with
  | .ok b ρ' => ∀ H' F', FLe F F' → Rel G.K io Rv ρ' F' σ H' → Q b H'
  | .exc x ρ' => XPost G W io Rv F ρ' x
  | .stuck => False
def sPn : SP' := fun ρ => .ok none ρ
def sPe (s : SE) : SP' := fun ρ => (s ρ).bind fun d ρ' => match d with
  | .int i => .ok (some i) ρ'
  | _ => .stuck
abbrev DP (G : Gx) (X : Cx) (W : WX) (e : Option Expr) (s : SP') : Prop := PO X e (tP G W s)
theorem wkP {X : Cx} {e : Option Expr} {t u : TO} (h : PO X e t) (w : ∀ σ H Q, u σ H Q → t σ H Q) : PO X e u := ⟨fun pins s σ H Q I q => h.run pins s σ H Q I (w σ H Q q)⟩
theorem d_pn : DP (GK X ex) X W none sPn := wkP po_none fun σ H Q ⟨ρ, F, Rv, io, rel, q⟩ => q H F (FLe.refl F) rel
theorem d_pe (h : DE (GK X ex) X W e ea) : DP (GK X ex) X W (some e) (sPe ea) := wkP (po_some h) fun σ H Q ⟨ρ, F, Rv, io, rel, q⟩ => by
  refine ⟨ρ, F, Rv, io, rel, ?_⟩
  unfold sPe at q
  cases e : ea ρ with
  | stuck => rw [e] at q; exact q.elim
  | exc x ρ' => rw [e] at q; exact q
  | ok d ρ' =>
    rw [e, R.bind_ok] at q
    cases d with
    | int i => intro v H' F' le rel' rp; cases rp; exact ⟨i, rfl, q H' F' le rel'⟩
    | _ => exact q.elim
def sSlice (s : SO) (lo hi : SP') : SE := fun ρ => (s ρ).bind fun o ρ1 => (lo ρ1).bind fun l ρ2 => (hi ρ2).bind fun h ρ3 => ofO ((o.get ρ3).bind fun d => sliceD d l h) ρ3
theorem d_slice {lo hi : Option Expr} {sl sh : SP'} {p2 : Pos} (ha : DO (GK X ex) X W a sa) (hl : DP (GK X ex) X W lo sl) (hh : DP (GK X ex) X W hi sh) : DE (GK X ex) X W (.Subscript a (.Slice lo hi none p2) pos) (sSlice sa sl sh) :=
  wkE (pe_slice sl_all ha hl hh) fun σ H Q ⟨ρ, F, Rv, io, rel, q⟩ => by
    refine ⟨ρ, F, Rv, io, rel, ?_⟩
    unfold sSlice at q
    cases e : sa ρ with
    | stuck => rw [e] at q; exact q.elim
    | exc x ρ' => rw [e] at q; exact q
    | ok o ρ1 =>
      rw [e, R.bind_ok] at q
      refine fun v H1 F1 le1 rel1 ok1 => ⟨ρ1, F1, Rv, io, rel1, ?_⟩
      cases e2 : sl ρ1 with
      | stuck => rw [e2] at q; exact q.elim
      | exc x ρ' => rw [e2] at q; exact XPost.le q le1
      | ok l ρ2 =>
        rw [e2, R.bind_ok] at q
        refine fun H2 F2 le2 rel2 => ⟨ρ2, F2, Rv, io, rel2, ?_⟩
        cases e3 : sh ρ2 with
        | stuck => rw [e3] at q; exact q.elim
        | exc x ρ' => rw [e3] at q; exact XPost.le q (le1.trans le2)
        | ok h ρ3 =>
          rw [e3, R.bind_ok] at q
          refine fun H3 F3 le3 rel3 => ?_
          cases e4 : o.get ρ3 with
          | none => rw [e4] at q; exact q.elim
          | some d =>
            rw [e4, Option.bind_some] at q
            cases e5 : sliceD d l h with
            | none => rw [e5] at q; exact q.elim
            | some z =>
              rw [e5] at q
              exact slice_vw (G := GK X ex) rel3.fH (rel3.view (G := GK X ex) (ok1.mono (le2.trans le3)) e4) e5 fun w H4 F4 n rp => q w H4 F4 (((le1.trans le2).trans le3).trans n.f) (rel3.after n) rp
/-- xs[::-1]: a new list -/
def sRev (s : SO) : SE := fun ρ => (s ρ).bind fun o ρ' => match o.get ρ' with
  | some (.lst xs) => .ok (.lst xs.reverse) ρ'
  | _ => .stuck
theorem d_fz (h : DF (GK X ex) X W e ea) : DE (GK X ex) X W e ea := wkE (pe_lk h) fun σ H Q ⟨ρ, F, Rv, io, rel, q⟩ => by
  refine ⟨ρ, F, Rv, io, rel, ?_⟩
  revert q
  cases ea ρ with
  | stuck => exact fun q => q
  | exc x ρ' => exact fun q => q
  | ok d ρ' =>
    intro q p H' F' le rel' ow lo
    obtain ⟨o, h1, h2⟩ := ow.at_
    refine .inr ⟨p, o, rfl, h1, h2.lkb, fun od => ?_⟩
    have le2 := FLe.upd (p := p) (lk od o) ow.nF
    have nR : ∀ a u, Rv a = some u → a ≠ p := fun a u e z => by subst z; rw [ow.nR] at e; cases e
    refine q _ (upd H' p (lk od o)) (upd F' p (lk od o)) (le.trans le2) ⟨fun a u e => ?_, fun a u e => by rw [upd_ne (nR a u e)]; exact rel'.rH a u e, fun a u e => ?_, rel'.len, fun i c v e1 e2 => ?_, rel'.inj, rel'.ios, rel'.ioc, fun t ht => let q := rel'.tab t ht; let ⟨ps, ep⟩ := q.tbl; q.mv (by rw [upd_ne (own_ne ow ep)]; exact q.1) q.2.1 (fun ps e => by rw [upd_ne (own_ne ow e)]; exact e) le2 q.nR, rel'.nt.upd (h2.lone od).2⟩ ((h2.mono le2).rp upd_same)
    · by_cases z : a = p
      · subst z; rw [upd_same] at e; cases e; exact upd_same
      · rw [upd_ne z] at e; rw [upd_ne z]; exact rel'.fH a u e
    · by_cases z : a = p
      · subst z; exact ow.nR
      · rw [upd_ne z] at e; exact rel'.dj a u e
    · have q := rel'.cell i c v e1 e2
      have keep : ∀ {p' d'}, c.held = some d' → v = some (.ref p') → OwnAt X.K F' Rv H' p' d' → OwnAt X.K (upd F' p (lk od o)) Rv (upd H' p (lk od o)) p' d' := fun {p' d'} h3 h4 w => by
        obtain ⟨o', e, q3⟩ := w.at_
        have ne : p' ≠ p := by intro z; subst z; subst h4; exact lo i c d' e1 h3 e2
        exact ⟨by rw [upd_ne ne]; exact w.nF, w.nR, o', by rw [upd_ne ne]; exact e, q3.mono le2⟩
      cases c with
      | no => trivial
      | fro d' => obtain ⟨y, e, q⟩ := q; exact ⟨y, e, q.mono le2⟩
      | own d' => obtain ⟨p', e, q⟩ := q; exact ⟨p', e, keep rfl e q⟩
      | io d' => obtain ⟨p', e, q⟩ := q; exact ⟨p', e, keep rfl e q⟩
def sTup (s : SA) : SE := fun ρ => (s ρ).bind fun ds ρ' => if ds.length ≤ sizeLine then .ok (.tup ds) ρ' else .stuck
def sLst (s : SA) : SE := fun ρ => (s ρ).bind fun ds ρ' => if ds.length ≤ sizeLine then .ok (.lst ds) ρ' else .stuck
theorem d_tup {k : Nat} (h : DA (GK X ex) X W es sA) : DE (GK X ex) X W (.Tuple es k pos) (sTup sA) := wkE (pe_tupZ h) fun σ H Q ⟨ρ, F, Rv, io, rel, q⟩ => by
  refine ⟨ρ, F, Rv, io, rel, ?_⟩
  unfold sTup at q
  cases e : sA ρ with
  | stuck => rw [e] at q; exact q.elim
  | exc x ρ' => rw [e] at q; exact q
  | ok ds ρ' =>
    rw [e, R.bind_ok] at q
    intro vs H' F' le rel' r
    by_cases hz : ds.length ≤ sizeLine
    · rw [if_pos hz] at q
      exact ⟨by rw [r.length]; exact hz, fun p o hp ho => q _ _ _ (le.trans (FLe.upd _ (rel'.fH.noneOf hp))) (rel'.new hp _) (.tup (.new ho) (r.mono (FLe.upd _ (rel'.fH.noneOf hp))))⟩
    · rw [if_neg hz] at q; exact q.elim
theorem d_lstF (h : DA (GK X ex) X W es sA) : DF (GK X ex) X W (.List es pos) (sLst sA) := wkE (pe_lst h) fun σ H Q ⟨ρ, F, Rv, io, rel, q⟩ => by
  refine ⟨ρ, F, Rv, io, rel, ?_⟩
  unfold sLst at q
  cases e : sA ρ with
  | stuck => rw [e] at q; exact q.elim
  | exc x ρ' => rw [e] at q; exact q
  | ok ds ρ' =>
    rw [e, R.bind_ok] at q
    intro vs H' F' le rel' r
    by_cases hz : ds.length ≤ sizeLine
    · rw [if_pos hz] at q
      exact ⟨by rw [r.length]; exact hz, fun p hp => q p _ F' le (rel'.newH hp _) ⟨rel'.fH.noneOf hp, rel'.rH.noneOf hp, _, upd_same, _, rfl, r⟩ (rel'.loose hp)⟩
    · rw [if_neg hz] at q; exact q.elim
/-- {}: keys will be ints and texts -/
theorem d_dctF : DF (GK X ex) X W (.Dict [] [] pos) (sCst (.dct [] [])) := wkE pe_dnewK fun σ H Q ⟨ρ, F, Rv, io, rel, q⟩ =>
  fun p hp => q p _ F (FLe.refl F) (rel.newH hp _) ⟨rel.fH.noneOf hp, rel.rH.noneOf hp, _, upd_same, [], rfl, rfl, .nil⟩ (rel.loose hp)
theorem d_callB {r : RL} {g : List D → Option D} (hc : CallR X (.builtin id) r) (hG : PSem (GK X ex) r g) (hg : Gl X x) (hm : X.mg x = none) (ha : DB (GK X ex) X W (e :: es) sB) (hv : bootBuiltins x = some (.builtin id) := by decide +kernel) (hn : x ≠ "__name__" := by decide) (hdb : (x == ("__debug__" : Str)) = false := by decide)
    (he : starEach (e :: es) X.env = (false, eval e X.env) :: starEach es X.env := by rfl) (hpl : (backTo pos (starEach es X.env)).any (·.1) = false := by rfl) : DE (GK X ex) X W (.Call (.Name x p) (e :: es) [] pos) (sOps g sB) :=
  wkE (pe_callB hc hg hm hv ha hn hdb he hpl) fun σ H Q h => ops_core hG h
theorem d_callTy {r : RL} {g : List D → Option D} (hc : CallR X (.type id) r) (hG : PSem (GK X ex) r g) (hg : Gl X x) (hm : X.mg x = none) (ha : DB (GK X ex) X W (e :: es) sB) (hv : bootBuiltins x = some (.type id) := by decide +kernel) (hn : x ≠ "__name__" := by decide) (hdb : (x == ("__debug__" : Str)) = false := by decide)
    (he : starEach (e :: es) X.env = (false, eval e X.env) :: starEach es X.env := by rfl) (hpl : (backTo pos (starEach es X.env)).any (·.1) = false := by rfl) : DE (GK X ex) X W (.Call (.Name x p) (e :: es) [] pos) (sOps g sB) :=
  wkE (pe_callTy hc hg hm hv ha hn hdb he hpl) fun σ H Q h => ops_core hG h
theorem d_callTyF {r : RL} {g : List D → Option D} (hc : CallR X (.type id) r) (hG : FSem (GK X ex) r g) (hg : Gl X x) (hm : X.mg x = none) (ha : DB (GK X ex) X W (e :: es) sB) (hv : bootBuiltins x = some (.type id) := by decide +kernel) (hn : x ≠ "__name__" := by decide) (hdb : (x == ("__debug__" : Str)) = false := by decide)
    (he : starEach (e :: es) X.env = (false, eval e X.env) :: starEach es X.env := by rfl) (hpl : (backTo pos (starEach es X.env)).any (·.1) = false := by rfl) : DF (GK X ex) X W (.Call (.Name x p) (e :: es) [] pos) (sOps g sB) :=
  wkE (pe_callTy hc hg hm hv ha hn hdb he hpl) fun σ H Q h => opsF_core hG h
/-- of a built-in type: bool is an int -/
def isTn (n t : String) : Bool := n == t || (t == "int" && n == "bool")
def isT (d : D) (t : String) : Bool := isTn (tyN d) t
def kindL : List String := ["int", "bool", "str", "tuple", "list", "dict"]
abbrev Kinds (t : String) : Prop := t ∈ kindL
theorem kit_all : ("NoneType" :: kindL).all (fun n => kindL.all fun t => kitB n t == some (isTn n t)) = true := by decide +kernel
theorem tyN_mem (d : D) : tyN d ∈ "NoneType" :: kindL := by cases d <;> simp [tyN, kindL]
theorem kit_isT {K : PySem.W.Frag} (d : D) {t : String} (h : Kinds t) : PySem.W.kitOne K (.type (tyN d)) (.type t) = some (isT d t) := by
  refine kit_ty ?_
  have z := List.all_eq_true.mp (List.all_eq_true.mp kit_all _ (tyN_mem d)) t h
  exact beq_iff_eq.mp z
def isTo (ts : List String) (d : D) : Option D := if d.isFn = true then none else some (.bl (ts.any (isT d)))
def sIsi (ts : List String) (s : SO) : SE := fun ρ => (s ρ).bind fun o ρ' => ofO ((o.get ρ').bind (isTo ts)) ρ'
theorem isi_core {G : Gx} {ts : List String} {Q : VK} (h : tE G W (sIsi ts sa) σ H Q) : tO G W sa σ H fun x H1 => ∃ F d, FLe F H1 ∧ Vw G.K F H1 x d ∧ d.isFn = false ∧ ∀ H2, FLe H1 H2 → Q (.bl (ts.any (isT d))) H2 := by
  obtain ⟨ρ, F, Rv, io, rel, q⟩ := h
  refine ⟨ρ, F, Rv, io, rel, ?_⟩
  unfold sIsi at q
  cases e : sa ρ with
  | stuck => rw [e] at q; exact q.elim
  | exc x ρ' => rw [e] at q; exact q
  | ok o ρ' =>
    rw [e, R.bind_ok] at q
    intro v H' F' le rel' ok
    cases e1 : o.get ρ' with
    | none => rw [e1] at q; exact q.elim
    | some d =>
      rw [e1, Option.bind_some] at q
      unfold isTo at q
      cases hd : d.isFn with
      | true => rw [if_pos hd] at q; exact q.elim
      | false =>
      rw [if_neg (by rw [hd]; decide)] at q
      exact ⟨F', d, rel'.fH, rel'.view ok e1, hd, fun H2 h2 => q _ H2 F' le (rel'.grow (FLe.refl _) h2 (rel'.fH.trans h2) (fun _ _ e => .inl e) rel'.nt) (.bl _)⟩
theorem isi_gl (hg : Gl X "isinstance") (hm : X.mg "isinstance" = none) {t : TA} {r : RL} {e2 : Expr} (hc : CallR X (.builtin "isinstance") r) (ha : PA X (a :: e2 :: []) t) (he : starEach (a :: e2 :: []) X.env = (false, eval a X.env) :: starEach (e2 :: []) X.env) (hpl : (backTo pos (starEach (e2 :: []) X.env)).any (·.1) = false) :
    PE X (.Call (.Name "isinstance" p) (a :: e2 :: []) [] pos) (tCB r t) := pe_callB hc hg hm (by decide +kernel) ha (by decide) (by decide) he hpl
theorem d_isi1 {t : Str} {ty : String} {q : Pos} (hg : Gl X "isinstance") (hm : X.mg "isinstance" = none) (ht : Kinds ty) (gt : Gl X t) (mt : X.mg t = none) (ha : DO (GK X ex) X W a sa) (hv : bootBuiltins t = some (.type ty) := by decide +kernel) (hn : t ≠ "__name__" := by decide) (hdb : (t == ("__debug__" : Str)) = false := by decide)
    (he : starEach (a :: (.Name t q) :: []) X.env = (false, eval a X.env) :: starEach ((.Name t q) :: []) X.env := by rfl) (hpl : (backTo pos (starEach ((.Name t q) :: []) X.env)).any (·.1) = false := by rfl) (hs2 : starEach ((.Name t q) :: []) X.env = (false, eval (.Name t q) X.env) :: starEach [] X.env := by rfl) :
    DE (GK X ex) X W (.Call (.Name "isinstance" p) (a :: (.Name t q) :: []) [] pos) (sIsi [ty] sa) :=
  wkE (isi_gl hg hm call_isi (pa_cons ha (pa_cons (pe_bltn (v := .ty ty) gt mt hv rfl hn hdb) pa_nil hs2) he) he hpl) fun σ H Q h =>
    tO_mono (isi_core h) fun x H1 ⟨F, d, fh, vw, hd, q⟩ => ⟨x, .ty ty, .type (tyN d), .type ty, isT d ty, rfl, .ty _, ty_vw fh vw hd, kit_isT d ht, by have z := q H1 (FLe.refl _); simpa using z⟩
theorem d_isi2 {t t' : Str} {ty ty' : String} {q q' q2 : Pos} {k : Nat} (hg : Gl X "isinstance") (hm : X.mg "isinstance" = none) (ht : Kinds ty) (ht' : Kinds ty') (gt : Gl X t) (mt : X.mg t = none) (gt' : Gl X t') (mt' : X.mg t' = none) (ha : DO (GK X ex) X W a sa)
    (hv : bootBuiltins t = some (.type ty) := by decide +kernel) (hn : t ≠ "__name__" := by decide) (hdb : (t == ("__debug__" : Str)) = false := by decide) (hv' : bootBuiltins t' = some (.type ty') := by decide +kernel) (hn' : t' ≠ "__name__" := by decide) (hdb' : (t' == ("__debug__" : Str)) = false := by decide)
    (he : starEach (a :: (.Tuple [.Name t q, .Name t' q'] k q2) :: []) X.env = (false, eval a X.env) :: starEach ((.Tuple [.Name t q, .Name t' q'] k q2) :: []) X.env := by rfl) (hpl : (backTo pos (starEach ((.Tuple [.Name t q, .Name t' q'] k q2) :: []) X.env)).any (·.1) = false := by rfl)
    (hs2 : starEach ((.Tuple [.Name t q, .Name t' q'] k q2) :: []) X.env = (false, eval (.Tuple [.Name t q, .Name t' q'] k q2) X.env) :: starEach [] X.env := by rfl)
    (hs3 : starEach (.Name t q :: [.Name t' q']) X.env = (false, eval (.Name t q) X.env) :: starEach [.Name t' q'] X.env := by rfl) (hs4 : starEach (.Name t' q' :: []) X.env = (false, eval (.Name t' q') X.env) :: starEach [] X.env := by rfl) :
    DE (GK X ex) X W (.Call (.Name "isinstance" p) (a :: (.Tuple [.Name t q, .Name t' q'] k q2) :: []) [] pos) (sIsi [ty, ty'] sa) :=
  wkE (isi_gl hg hm call_isiT (pa_cons ha (pa_cons (pe_tup (pa_cons (pe_bltn (v := .ty ty) gt mt hv rfl hn hdb) (pa_cons (pe_bltn (v := .ty ty') gt' mt' hv' rfl hn' hdb') pa_nil hs4) hs3)) pa_nil hs2) he) he hpl) fun σ H Q h =>
    tO_mono (isi_core h) fun x H1 ⟨F, d, fh, vw, hd, q⟩ => ⟨(by show 2 ≤ sizeLine; decide), fun pp hp => ⟨x, pp, [.ty ty, .ty ty'], .type (tyN d), [.type ty, .type ty'], [ty, ty'].any (isT d), rfl, upd_same, .cons (.ty _) (.cons (.ty _) .nil),
      (by
        have g := ty_vw (K := X.K) (fh.trans (FLe.upd (.tup [.ty ty, .ty ty']) hp)) (v := x) (d := d) (by
          rcases vw with z | ⟨p', o, e1, e2, e3⟩
          · exact .inl z
          · exact .inr ⟨p', o, e1, by rw [upd_ne (ne_of_none e2 hp)]; exact e2, e3⟩) hd
        exact g),
      (by
        have k1 := kit_isT (K := X.K) d ht
        have k2 := kit_isT (K := X.K) d ht'
        cases e1 : isT d ty <;> cases e2 : isT d ty' <;> rw [e1] at k1 <;> rw [e2] at k2
        · exact kitAny_cons k1 (fun _ => kitAny_cons k2 (fun _ => by simp [e1, e2, kitAny_nil]) (fun z => nomatch z)) (fun z => nomatch z)
        · exact kitAny_cons k1 (fun _ => kitAny_cons k2 (fun z => nomatch z) (fun _ => by simp [e1, e2])) (fun z => nomatch z)
        · exact kitAny_cons k1 (fun z => nomatch z) (fun _ => by simp [e1])
        · exact kitAny_cons k1 (fun z => nomatch z) (fun _ => by simp [e1])), q _ (FLe.upd _ hp)⟩⟩
end
end Dt
set_option Elab.async false
set_option linter.all false
set_option maxRecDepth 100000
set_option maxHeartbeats 2000000
namespace Dt
open PySem PySem.Spec PyProof.Rows L2
variable [HW]
/-- an iterator that gives these, whatever more there is -/
structure IterOk (K : PySem.W.Frag) (J : It) (F : Hp) (ds : List D) : Prop where
  go : ∀ (i : Nat) (F1 H : Hp), FLe F F1 → FLe F1 H → i < ds.length → J.go i H
  stop : ∀ (F1 H : Hp), FLe F F1 → FLe F1 H → J.stop ds.length H
  yld : ∀ (i : Nat) (F1 H H' : Hp) (x : V) (d : D), FLe F F1 → FLe F1 H → ds[i]? = some d → J.yld i H x H' → ∃ F2, New F1 H F2 H' ∧ Rp K F2 x d
def tI (G : Gx) (W : WX) (s : SA) : TI := fun σ H Q => ∃ ρ F Rv, ∃ io : Io G.ex.tabs, Rel G.K io Rv ρ F σ H ∧ match s ρ with
  | .ok ds ρ' => ∀ J H' F', FLe F F' → Rel G.K io Rv ρ' F' σ H' → IterOk G.K J F' ds → Q J H'
  | .exc x ρ' => XPost G W io Rv F ρ' x
  | .stuck => False
abbrev DI (G : Gx) (X : Cx) (W : WX) (tg e : Expr) (s : SA) : Prop := PI X tg e (tI G W s)
theorem wkI {X : Cx} {tg e : Expr} {t u : TI} (h : PI X tg e t) (w : ∀ σ H Q, u σ H Q → t σ H Q) : PI X tg e u := ⟨fun pins s σ H Q I q => h.run pins s σ H Q I (w σ H Q q)⟩
section
variable {K : PySem.W.Frag} {F : Hp}
theorem iter_lst {a : Addr} {xs : List V} {ds : List D} (t : F a = some (.lst xs)) (r : Rps K F xs ds) : IterOk K (Itl K a) F ds := by
  have at_ : ∀ {F1 H : Hp}, FLe F F1 → FLe F1 H → SqL K H a xs := fun h1 h2 => SqL.of (h2 _ _ (h1 _ _ t))
  refine ⟨fun i F1 H h1 h2 hi => ?_, fun F1 H h1 h2 => ⟨xs, at_ h1 h2, Nat.le_of_eq r.length⟩, fun i F1 H H' x d h1 h2 e y => ?_⟩
  · have hi' : i < xs.length := by rw [r.length]; exact hi
    exact ⟨xs, xs[i], at_ h1 h2, by simp [hi']⟩
  · obtain ⟨v, e1, rp⟩ := r.get e
    have e2 := y.2 xs (at_ h1 h2)
    rw [e1] at e2
    cases e2
    rw [y.1]
    exact ⟨F1, New.refl h2, rp.mono h1⟩
theorem iter_tup {a : Addr} {xs : List V} {ds : List D} (t : SqT K F a xs) (r : Rps K F xs ds) : IterOk K (Itt K a) F ds := by
  have at_ : ∀ {F1 H : Hp}, FLe F F1 → FLe F1 H → SqT K H a xs := fun h1 h2 => h2.sqT (h1.sqT t)
  refine ⟨fun i F1 H h1 h2 hi => ?_, fun F1 H h1 h2 => ⟨xs, at_ h1 h2, Nat.le_of_eq r.length⟩, fun i F1 H H' x d h1 h2 e y => ?_⟩
  · have hi' : i < xs.length := by rw [r.length]; exact hi
    exact ⟨xs, xs[i], at_ h1 h2, by simp [hi']⟩
  · obtain ⟨v, e1, rp⟩ := r.get e
    have e2 := y.2 xs (at_ h1 h2)
    rw [e1] at e2
    cases e2
    rw [y.1]
    exact ⟨F1, New.refl h2, rp.mono h1⟩
/-- a dict by its keys: it is locked -/
theorem iter_dct {a : Addr} {od : Obj} {kvs : List (Key × V)} (t : F a = some (.frz od (.dK kvs))) : IterOk K (Itk a od kvs) F ((kvs.map (·.1)).map keyD) := by
  have at_ : ∀ {F1 H : Hp}, FLe F F1 → FLe F1 H → H a = some (.frz od (.dK kvs)) := fun h1 h2 => h2 _ _ (h1 _ _ t)
  refine ⟨fun i F1 H h1 h2 hi => ⟨at_ h1 h2, by simpa using hi⟩, fun F1 H h1 h2 => ⟨at_ h1 h2, by simp⟩, fun i F1 H H' x d h1 h2 e y => ?_⟩
  obtain ⟨e1, k, v, e2, rfl⟩ := y
  rw [e1]
  refine ⟨F1, New.refl h2, ?_⟩
  rw [List.getElem?_map, List.getElem?_map, e2] at e
  cases e
  exact rp_key k
def signs (z : Str) : List D := z.cps.toList.map fun c => .str ⟨#[c]⟩
theorem iter_str {z : Str} : IterOk K (Its z) F (signs z) := by
  refine ⟨fun i F1 H h1 h2 hi => (show i < z.cps.size from by simpa [signs] using hi), fun F1 H h1 h2 => by simp [signs, Its], fun i F1 H H' x d h1 h2 e y => ?_⟩
  obtain ⟨e1, c, e2, rfl⟩ := y
  rw [e1]
  refine ⟨F1, New.refl h2, ?_⟩
  have e3 : z.cps.toList[i]? = some c := by simpa using e2
  unfold signs at e
  rw [List.getElem?_map, e3] at e
  cases e
  exact .str _
def upto (lo : Int) (n : Nat) : List D := (List.range n).map fun i => .int (lo + (i : Nat))
theorem iter_rng {lo : Int} {n : Nat} : IterOk K (Itr lo n) F (upto lo n) := by
  refine ⟨fun i F1 H h1 h2 hi => by simpa [upto, Itr] using hi, fun F1 H h1 h2 => by simp [upto, Itr], fun i F1 H H' x d h1 h2 e y => ?_⟩
  obtain ⟨e1, rfl⟩ := y
  rw [e1]
  refine ⟨F1, New.refl h2, ?_⟩
  unfold upto at e
  rw [List.getElem?_map] at e
  cases e2 : (List.range n)[i]? with
  | none => rw [e2] at e; cases e
  | some j =>
    rw [e2] at e
    have e3 : j = i := by
      rw [List.getElem?_range] at e2
      · cases e2; rfl
      · by_cases h : i < n
        · exact h
        · rw [List.getElem?_eq_none (by simp; omega)] at e2; cases e2
    subst e3
    cases e
    exact .int _
end
section
variable {ex : Exx} {X : Cx} {W : WX} {σ : L2.St} {H : Hp} {a b c e tg : Expr} {es : List Expr} {pos p : Pos} {sa sb sc : SO} {ea eb : SE} {sB : SB} {sA : SA} {x : Str} {id : String}
/-- a list, a tuple, a text, a locked dict -/
theorem pi_any (he : PE X e ta) : PI X tg e (fun σ H R => ta σ H fun x H1 => (∃ a xs, x = V.ref a ∧ SqL X.K H1 a xs ∧ R (Itl X.K a) H1) ∨ (∃ a xs, x = V.ref a ∧ SqT X.K H1 a xs ∧ R (Itt X.K a) H1) ∨ (∃ z, x = V.str z ∧ R (Its z) H1) ∨ ∃ a od kvs, x = V.ref a ∧ H1 a = some (.frz od (.dK kvs)) ∧ R (Itk a od kvs) H1) := by
  refine ⟨fun pins s σ H R I h => thn (he.run pins s σ H _ I h) fun v s1 ⟨x, H1, I1, r1, q1⟩ => ?_⟩
  rcases q1 with ⟨a, xs, rfl, hq, q⟩ | ⟨a, xs, rfl, hq, q⟩ | ⟨z, rfl, q⟩ | ⟨a, od, kvs, rfl, hd, q⟩
  · obtain rfl : v = Value.ref a := r1
    obtain ⟨its, _, pl, _⟩ := I1.list hq
    exact wpAny_pyIter_list pl.isList (pi_one (tk := s1.toks) I1 _ (turn_list a _) ⟨_, Heap.get?_push_size _ rfl, rfl, rfl⟩ q)
  · obtain rfl : v = Value.ref a := r1
    obtain ⟨its, _, pl, _⟩ := I1.tuple hq
    exact wpAny_pyIter_tuple (show s1.heap.IsTuple a its.toArray from pl) (pi_one (tk := s1.toks) I1 _ (turn_tuple a _) ⟨_, Heap.get?_push_size _ rfl, rfl, rfl⟩ q)
  · obtain ⟨t, rfl⟩ := r1
    cases hz : z.cps.all (· < 128) with
    | false => exact wpAny_pyIter_wide hz (pi_one (tk := s1.toks) I1 _ (turn_str _ z t "str_iterator" (.inr rfl)) ⟨_, Heap.get?_push_size _ rfl, rfl, rfl⟩ q)
    | true => exact wpAny_pyIter_ascii hz (pi_one (tk := s1.toks) I1 _ (turn_str _ z t "str_ascii_iterator" (.inl rfl)) ⟨_, Heap.get?_push_size _ rfl, rfl, rfl⟩ q)
  · obtain rfl : v = Value.ref a := r1
    obtain ⟨hs, hgd, hx, es, ep, vs, hdt, hsz, kv, hm⟩ := I1.frzK hd
    refine iter_keys hs hgd hx hdt (pi_one (tk := s1.toks) I1 _ (turn_keys _ hdt) ⟨_, Heap.get?_push_size _ rfl, rfl, ?_⟩ q)
    rw [hsz] <;> rfl
def itemsD : D → Option (List D)
  | .lst ds => some ds
  | .tup ds => some ds
  | .str z => some (signs z)
  | .arg ds => some ds
  | .dct ks _ => some (ks.map keyD)
  | .etup => some []
  | _ => none
def iAny (s : SE) : SA := fun ρ => (s ρ).bind fun d ρ' => ofO (itemsD d) ρ'
theorem d_iAny (h : DE (GK X ex) X W e ea) : DI (GK X ex) X W tg e (iAny ea) := wkI (pi_any h) fun σ H Q ⟨ρ, F, Rv, io, rel, q⟩ => by
  refine ⟨ρ, F, Rv, io, rel, ?_⟩
  unfold iAny at q
  cases e : ea ρ with
  | stuck => rw [e] at q; exact q.elim
  | exc x ρ' => rw [e] at q; exact q
  | ok d ρ' =>
    rw [e, R.bind_ok] at q
    intro v H' F' le rel' rp
    cases rp with
    | lst t r => exact .inl ⟨_, _, rfl, SqL.of (rel'.fH _ _ t), q _ H' F' le rel' (iter_lst t r)⟩
    | tup t r => exact .inr (.inl ⟨_, _, rfl, rel'.fH.sqT t.sq, q _ H' F' le rel' (iter_tup t.sq r)⟩)
    | arg t r => exact .inr (.inl ⟨_, _, rfl, rel'.fH.sqT t, q _ H' F' le rel' (iter_tup t r)⟩)
    | etup t => exact .inr (.inl ⟨_, _, rfl, t.sq H', q _ H' F' le rel' (iter_tup (t.sq F') .nil)⟩)
    | str z => exact .inr (.inr (.inl ⟨z, rfl, q _ H' F' le rel' iter_str⟩))
    | dct t r => exact .inr (.inr (.inr ⟨_, _, _, rfl, rel'.fH _ _ t, q _ H' F' le rel' (iter_dct t)⟩))
    | _ => exact q.elim
def rng1D : List D → Option (List D)
  | [.int j] => if -(2 ^ 62) ≤ j ∧ j < 2 ^ 62 then some (upto 0 j.toNat) else none
  | _ => none
theorem rng1D_some {ds zs : List D} (h : rng1D ds = some zs) : ∃ j : Int, ds = [.int j] ∧ -(2 ^ 62) ≤ j ∧ j < 2 ^ 62 ∧ zs = upto 0 j.toNat := by
  unfold rng1D at h
  split at h
  · rename_i j
    split at h
    · rename_i hj; cases h; exact ⟨j, rfl, hj.1, hj.2, rfl⟩
    · cases h
  · cases h
def iRng1' (s : SA) : SA := fun ρ => (s ρ).bind fun ds ρ' => ofO (rng1D ds) ρ'
theorem d_iRng1 {e : Expr} (hg : Gl X "range") (hm : X.mg "range" = none) (ha : DA (GK X ex) X W [e] sA) (hs : starEach [e] X.env = [(false, eval e X.env)] := by rfl) : DI (GK X ex) X W tg (.Call (.Name "range" p) [e] [] pos) (iRng1' sA) :=
  wkI (pi_range1 hg hm ha hs) fun σ H Q ⟨ρ, F, Rv, io, rel, q⟩ => by
    refine ⟨ρ, F, Rv, io, rel, ?_⟩
    unfold iRng1' at q
    cases e : sA ρ with
    | stuck => rw [e] at q; exact q.elim
    | exc x ρ' => rw [e] at q; exact q
    | ok ds ρ' =>
      rw [e, R.bind_ok] at q
      intro vs H' F' le rel' rp
      cases e2 : rng1D ds with
      | none => rw [e2] at q; exact q.elim
      | some zs =>
        rw [e2] at q
        obtain ⟨j, rfl, h1, h2, rfl⟩ := rng1D_some e2
        cases rp with
        | cons r rr => cases rr; cases r; exact ⟨j, rfl, h1, h2, q _ H' F' le rel' iter_rng⟩
def rng2D : List D → Option (List D)
  | [.int i, .int j] => if -(2 ^ 62) ≤ i ∧ i < 2 ^ 62 ∧ -(2 ^ 62) ≤ j ∧ j < 2 ^ 62 then some (upto i (j - i).toNat) else none
  | _ => none
def iRng2' (s : SA) : SA := fun ρ => (s ρ).bind fun ds ρ' => ofO (rng2D ds) ρ'
def gSet (i : Nat) : SG := fun d ρ => match ρ[i]? with
  | some (.io _) => .stuck
  | none => .stuck
  | _ => .ok () (ρ.set i (.fro d))
theorem wkG {X : Cx} {e : Expr} {t u : TG} (h : PG X e t) (w : ∀ v σ H Q, u v σ H Q → t v σ H Q) : PG X e u := ⟨fun pins s σ H v vv Q I r q => h.run pins s σ H v vv Q I r (w v σ H Q q)⟩
theorem gSet_ok {ρ ρ' : Env} {i : Nat} {d : D} {u : Unit} (h : gSet i d ρ = .ok u ρ') : (∀ e, ρ[i]? ≠ some (Cell.io e)) ∧ ρ' = ρ.set i (.fro d) := by
  unfold gSet at h
  split at h
  · cases h
  · cases h
  · rename_i h1 h2
    cases h
    exact ⟨fun e z => h1 e z, rfl⟩
theorem d_gName {i : Nat} (hN : X.N.Nodup) (hi : X.N[i]? = some x) (hx : Loc X.env.scope x) (hf : X.fn x = true ∨ X.env.scope.names.lookup x = some .local) : DG (GK X ex) X W [i] (.Name x pos) (gSet i) :=
  wkG (pg_name hN hi hx hf) fun v σ H Q ⟨d, ρ, F, Rv, io, rel, rp, q⟩ => by
    show Q (σ.set i (some v)) H
    cases e : gSet i d ρ with
    | stuck => rw [e] at q; exact q.elim
    | exc x ρ' => unfold gSet at e; split at e <;> cases e
    | ok u ρ' =>
      rw [e] at q
      obtain ⟨h1, rfl⟩ := gSet_ok e
      exact q _ H F (FLe.refl F) (rel.setFro rp h1) ⟨List.length_set, fun j hj => List.getElem?_set_ne fun z => hj (by simp [z])⟩
abbrev SGs := List D → Env → R Unit
def tGs (G : Gx) (W : WX) (js : List Nat) (s : SGs) : TGs := fun vs σ H Q => ∃ ds ρ F Rv, ∃ io : Io G.ex.tabs, Rel G.K io Rv ρ F σ H ∧ Rps G.K F vs ds ∧ match s ds ρ with
  | .ok _ ρ' => ∀ σ' H' F', FLe F F' → Rel G.K io Rv ρ' F' σ' H' → Keeps js σ σ' → Q σ' H'
  | .exc x ρ' => XPost G W io Rv F ρ' x
  | .stuck => False
abbrev DGs (G : Gx) (X : Cx) (W : WX) (js : List Nat) (e : List Expr) (s : SGs) : Prop := PGs X e (tGs G W js s)
theorem wkGs {X : Cx} {e : List Expr} {t u : TGs} (h : PGs X e t) (w : ∀ v σ H Q, u v σ H Q → t v σ H Q) : PGs X e u := ⟨fun pins s σ H v vv Q I r q => h.run pins s σ H v vv Q I r (w v σ H Q q)⟩
def gN : SGs := fun ds ρ => match ds with
  | [] => .ok () ρ
  | _ => .stuck
def gC (g : SG) (gs : SGs) : SGs := fun ds ρ => match ds with
  | d :: ds => (g d ρ).bind fun _ ρ' => gs ds ρ'
  | [] => .stuck
theorem d_gN : DGs (GK X ex) X W [] [] gN := wkGs pgs_nil fun v σ H Q ⟨ds, ρ, F, Rv, io, rel, rp, q⟩ => by
  cases rp with
  | nil => exact ⟨rfl, q σ H F (FLe.refl F) rel ⟨rfl, fun _ _ => rfl⟩⟩
  | cons _ _ => exact q.elim
theorem d_gC {g : SG} {gs : SGs} {js ks : List Nat} (h : DG (GK X ex) X W js e g) (h2 : DGs (GK X ex) X W ks es gs) (hs : (assignEach (e :: es) X.env).map (·.2) = assign e X.env :: (assignEach es X.env).map (·.2) := by rfl) : DGs (GK X ex) X W (js ++ ks) (e :: es) (gC g gs) :=
  wkGs (pgs_cons h h2 hs) fun vs σ H Q ⟨ds, ρ, F, Rv, io, rel, rp, q⟩ => by
    cases rp with
    | nil => exact q.elim
    | @cons v vs d ds r rr =>
      refine ⟨v, vs, rfl, d, ρ, F, Rv, io, rel, r, ?_⟩
      have q : (match (g d ρ).bind fun _ ρ' => gs ds ρ' with | .ok _ ρ' => ∀ σ' H' F', FLe F F' → Rel X.K io Rv ρ' F' σ' H' → Keeps (js ++ ks) σ σ' → Q σ' H' | .exc x ρ' => XPost (GK X ex) W io Rv F ρ' x | .stuck => False) := q
      cases e : g d ρ with
      | stuck => rw [e] at q; exact q.elim
      | exc x ρ' => rw [e] at q; exact q
      | ok u ρ' =>
        rw [e, R.bind_ok] at q
        refine fun σ' H' F' le rel' hj => ⟨ds, ρ', F', Rv, io, rel', rr.mono le, ?_⟩
        cases e2 : gs ds ρ' with
        | stuck => rw [e2] at q; exact q.elim
        | exc x ρ'' => rw [e2] at q; exact XPost.le q le
        | ok u ρ'' => rw [e2] at q; exact fun σ2 H2 F2 le2 rel2 hj2 => q σ2 H2 F2 (le.trans le2) rel2 ⟨hj2.1.trans hj.1, fun j hjk => (hj2.2 j fun z => hjk (List.mem_append_right _ z)).trans (hj.2 j fun z => hjk (List.mem_append_left _ z))⟩
/-- (a, b, ..): of a tuple or of a list -/
def gTup' (n : Nat) (gs : SGs) : SG := fun d ρ => match d with
  | .tup ds => if ds.length = n then gs ds ρ else .stuck
  | .lst ds => if ds.length = n then gs ds ρ else .stuck
  | .arg ds => if ds.length = n then gs ds ρ else .stuck
  | _ => .stuck
theorem pg_both {k n : Nat} {t : TGs} (hc : X.calm = true) (h : PGs X es t) (hn : (assignEach es X.env).length = n) (hst : (assignEach es X.env).findIdx? (·.1) = none) :
    PG X (.Tuple es k pos) (fun v σ H Q => gTup X.K n t v σ H Q ∨ gUnl X.K n t v σ H Q) :=
  ⟨fun pins s σ H v u Q I r hw => hw.elim (fun hw => (pg_tup hc h hn hst).run pins s σ H v u Q I r hw) fun hw => (pg_unl hc h hn hst).run pins s σ H v u Q I r hw⟩
theorem d_gTup {k n : Nat} {gs : SGs} {js : List Nat} (hc : X.calm = true) (h : DGs (GK X ex) X W js es gs) (hn : (assignEach es X.env).length = n := by rfl) (hst : (assignEach es X.env).findIdx? (·.1) = none := by rfl) : DG (GK X ex) X W js (.Tuple es k pos) (gTup' n gs) :=
  wkG (pg_both hc h hn hst) fun v σ H Q ⟨d, ρ, F, Rv, io, rel, rp, q⟩ => by
    cases d with
    | tup ds =>
      obtain ⟨a, xs, rfl, t, r⟩ := Vw.sqT (F := F) rel.fH (.inl rp)
      have q : (match (if ds.length = n then gs ds ρ else .stuck) with | .ok _ ρ' => ∀ σ' H' F', FLe F F' → Rel X.K io Rv ρ' F' σ' H' → Keeps js σ σ' → Q σ' H' | .exc x ρ' => XPost (GK X ex) W io Rv F ρ' x | .stuck => False) := q
      by_cases hl : ds.length = n
      · rw [if_pos hl] at q
        exact .inl ⟨a, xs, rfl, t, by rw [r.length]; exact hl, ds, ρ, F, Rv, io, rel, r, q⟩
      · rw [if_neg hl] at q; exact q.elim
    | arg ds =>
      obtain ⟨a, xs, rfl, t, r⟩ : ∃ a xs, v = .ref a ∧ SqT X.K F a xs ∧ Rps X.K F xs ds := by cases rp with | arg t r => exact ⟨_, _, rfl, t, r⟩
      have q : (match (if ds.length = n then gs ds ρ else .stuck) with | .ok _ ρ' => ∀ σ' H' F', FLe F F' → Rel X.K io Rv ρ' F' σ' H' → Keeps js σ σ' → Q σ' H' | .exc x ρ' => XPost (GK X ex) W io Rv F ρ' x | .stuck => False) := q
      by_cases hl : ds.length = n
      · rw [if_pos hl] at q
        exact .inl ⟨a, xs, rfl, rel.fH.sqT t, by rw [r.length]; exact hl, ds, ρ, F, Rv, io, rel, r, q⟩
      · rw [if_neg hl] at q; exact q.elim
    | lst ds =>
      obtain ⟨a, xs, rfl, t, r⟩ := Vw.lst (F := F) rel.fH (.inl rp)
      have q : (match (if ds.length = n then gs ds ρ else .stuck) with | .ok _ ρ' => ∀ σ' H' F', FLe F F' → Rel X.K io Rv ρ' F' σ' H' → Keeps js σ σ' → Q σ' H' | .exc x ρ' => XPost (GK X ex) W io Rv F ρ' x | .stuck => False) := q
      by_cases hl : ds.length = n
      · rw [if_pos hl] at q
        exact .inr ⟨a, xs, rfl, SqL.of t, by rw [r.length]; exact hl, ds, ρ, F, Rv, io, rel, r, q⟩
      · rw [if_neg hl] at q; exact q.elim
    | _ => exact q.elim
def wipeE (ρ : Env) : List Nat → Env
  | [] => ρ
  | v :: vs => (wipeE ρ vs).set v .no
/-- the cells of the block's own names as they were -/
def backE (ρ0 ρ : Env) : List Nat → Env
  | [] => ρ
  | v :: vs => match ρ0[v]? with
    | some c => (backE ρ0 ρ vs).set v c
    | none => backE ρ0 ρ vs
def plainAt (ρ : Env) (vs : List Nat) : Bool := vs.all fun v => match ρ[v]? with
  | some .no => true
  | some (.fro _) => true
  | _ => false
def compGo (vs : List Nat) (g : SG) (t : ST) (s : SE) : List D → Env → R (List D)
  | [], ρ => .ok [] ρ
  | d :: ds, ρ => (g d ρ).bind fun _ ρ1 => (t ρ1).bind fun k ρ2 => match k with
    | true => (s ρ2).bind fun z ρ3 => if plainAt ρ3 vs = true then (compGo vs g t s ds (wipeE ρ3 vs)).bind fun zs ρ4 => .ok (z :: zs) ρ4 else .stuck
    | false => if plainAt ρ2 vs = true then compGo vs g t s ds (wipeE ρ2 vs) else .stuck
def noX {α : Type} : R α → R α
  | .ok a ρ => .ok a ρ
  | _ => .stuck
def sComp (vs : List Nat) (it : SA) (g : SG) (t : ST) (s : SE) : SE := fun ρ => (it ρ).bind fun ds ρ1 =>
  if plainAt ρ1 vs = true ∧ ds.length ≤ sizeLine then (noX (compGo vs g t s ds (wipeE ρ1 vs))).bind fun zs ρ2 => .ok (.lst zs) (backE ρ1 ρ2 vs) else .stuck
abbrev W0 : WX := fun _ _ _ _ => False
theorem wipe_get {σ : L2.St} {i : Nat} : ∀ vs : List Nat, (wipe σ vs)[i]? = if i ∈ vs then (σ[i]?).map fun _ => none else σ[i]?
  | [] => by simp [wipe]
  | v :: vs => by
    have ih := wipe_get (σ := σ) (i := i) vs
    unfold wipe
    rw [List.getElem?_set, wipe_length]
    by_cases h : v = i
    · subst h
      rw [if_pos rfl, if_pos (show v ∈ v :: vs from List.mem_cons_self)]
      by_cases hl : v < σ.length
      · rw [if_pos hl]; simp [hl]
      · rw [if_neg hl]; rw [List.getElem?_eq_none (by omega)]; rfl
    · rw [if_neg h, ih]
      by_cases h2 : i ∈ vs
      · rw [if_pos h2, if_pos (List.mem_cons_of_mem _ h2)]
      · rw [if_neg h2, if_neg (by simp only [List.mem_cons, not_or]; exact ⟨fun z => h z.symm, h2⟩)]
theorem wipe_same {σ σ' : L2.St} {vs : List Nat} (hl : σ'.length = σ.length) (h : ∀ j, j ∉ vs → σ'[j]? = (wipe σ vs)[j]?) : wipe σ' vs = wipe σ vs := by
  refine List.ext_getElem? fun j => ?_
  rw [wipe_get, wipe_get]
  by_cases hj : j ∈ vs
  · rw [if_pos hj, if_pos hj]
    by_cases hz : j < σ.length
    · rw [List.getElem?_eq_getElem (by omega), List.getElem?_eq_getElem hz]; rfl
    · rw [List.getElem?_eq_none (by omega), List.getElem?_eq_none (by omega)]
  · have q := h j hj
    rw [wipe_get, if_neg hj] at q
    rw [if_neg hj, if_neg hj, q]
theorem wipeE_len {ρ : Env} : ∀ vs : List Nat, (wipeE ρ vs).length = ρ.length
  | [] => rfl
  | v :: vs => by unfold wipeE; rw [List.length_set]; exact wipeE_len vs
theorem wipeE_get {ρ : Env} {i : Nat} : ∀ vs : List Nat, (wipeE ρ vs)[i]? = if i ∈ vs then (ρ[i]?).map fun _ => Cell.no else ρ[i]?
  | [] => by simp [wipeE]
  | v :: vs => by
    have ih := wipeE_get (ρ := ρ) (i := i) vs
    unfold wipeE
    rw [List.getElem?_set, wipeE_len]
    by_cases h : v = i
    · subst h
      rw [if_pos rfl, if_pos (show v ∈ v :: vs from List.mem_cons_self)]
      by_cases hl : v < ρ.length
      · rw [if_pos hl]; simp [hl]
      · rw [if_neg hl]; rw [List.getElem?_eq_none (by omega)]; rfl
    · rw [if_neg h, ih]
      by_cases h2 : i ∈ vs
      · rw [if_pos h2, if_pos (List.mem_cons_of_mem _ h2)]
      · rw [if_neg h2, if_neg (by simp only [List.mem_cons, not_or]; exact ⟨fun z => h z.symm, h2⟩)]
theorem backE_get {ρ0 ρ : Env} {i : Nat} (hl : ρ0.length = ρ.length) : ∀ vs : List Nat, (backE ρ0 ρ vs).length = ρ.length ∧ (backE ρ0 ρ vs)[i]? = if i ∈ vs then ρ0[i]? else ρ[i]?
  | [] => by simp [backE]
  | v :: vs => by
    obtain ⟨hlen, ih⟩ := backE_get (ρ0 := ρ0) (ρ := ρ) (i := i) hl vs
    unfold backE
    cases e : ρ0[v]? with
    | none =>
      refine ⟨hlen, ?_⟩
      show (backE ρ0 ρ vs)[i]? = _
      rw [ih]
      by_cases h : v = i
      · subst h
        rw [if_pos (show v ∈ v :: vs by simp)]
        have hv := List.getElem?_eq_none_iff.mp e
        by_cases h2 : v ∈ vs
        · rw [if_pos h2]
        · rw [if_neg h2, e, List.getElem?_eq_none (by omega)]
      · by_cases h2 : i ∈ vs
        · rw [if_pos h2, if_pos (List.mem_cons_of_mem _ h2)]
        · rw [if_neg h2, if_neg (by simp only [List.mem_cons, not_or]; exact ⟨fun z => h z.symm, h2⟩)]
    | some c =>
      refine ⟨by show ((backE ρ0 ρ vs).set v c).length = _; rw [List.length_set, hlen], ?_⟩
      show ((backE ρ0 ρ vs).set v c)[i]? = _
      rw [List.getElem?_set, hlen]
      have hv := (List.getElem?_eq_some_iff.mp e).1
      by_cases h : v = i
      · subst h
        rw [if_pos rfl, if_pos (show v < ρ.length by omega), if_pos (show v ∈ v :: vs from List.mem_cons_self), e]
      · rw [if_neg h, ih]
        by_cases h2 : i ∈ vs
        · rw [if_pos h2, if_pos (List.mem_cons_of_mem _ h2)]
        · rw [if_neg h2, if_neg (by simp only [List.mem_cons, not_or]; exact ⟨fun z => h z.symm, h2⟩)]
theorem plain_at {ρ : Env} {vs : List Nat} (h : plainAt ρ vs = true) {v : Nat} (hv : v ∈ vs) {c : Cell} (e : ρ[v]? = some c) : c = .no ∨ ∃ d, c = .fro d := by
  have q := List.all_eq_true.mp h v hv
  rw [e] at q
  cases c with
  | no => exact .inl rfl
  | fro d => exact .inr ⟨d, rfl⟩
  | own d => cases q
  | io d => cases q
section
variable {K : PySem.W.Frag} {T : List (Addr × Str)} {io : Io T} {Rv : Hp} {ρ ρ0 : Env} {F F0 : Hp} {σ : L2.St} {H H0 : Hp} {vs : List Nat}
theorem Rel.wiped (r : Rel K io Rv ρ F σ H) (h : plainAt ρ vs = true) : Rel K io Rv (wipeE ρ vs) F (wipe σ vs) H := by
  have same : ∀ {i c}, (wipeE ρ vs)[i]? = some c → c.held.isSome = true ∨ (∃ d, c = .fro d) → i ∉ vs ∧ ρ[i]? = some c := fun {i c} e q => by
    rw [wipeE_get] at e
    by_cases hi : i ∈ vs
    · rw [if_pos hi] at e
      cases e2 : ρ[i]? with
      | none => rw [e2] at e; cases e
      | some c' => rw [e2] at e; cases e; rcases q with q | ⟨d, q⟩ <;> cases q
    · rw [if_neg hi] at e; exact ⟨hi, e⟩
  have slot : ∀ {i}, i ∉ vs → (wipe σ vs)[i]? = σ[i]? := fun {i} hi => by rw [wipe_get, if_neg hi]
  refine ⟨r.fH, r.rH, r.dj, by rw [wipeE_len, wipe_length]; exact r.len, fun i c v e1 e2 => ?_, fun i j ci cj di dj p e1 e2 h1 h2 s1 s2 => ?_, fun ip hip => ?_, (fun i d e => ?_), r.tab, r.nt⟩
  · cases c with
    | no => trivial
    | _ =>
      obtain ⟨n, e⟩ := same e1 (by first | exact .inl rfl | exact .inr ⟨_, rfl⟩)
      rw [slot n] at e2
      exact r.cell i _ v e e2
  · obtain ⟨n1, g1⟩ := same e1 (.inl (by rw [h1]; rfl))
    obtain ⟨n2, g2⟩ := same e2 (.inl (by rw [h2]; rfl))
    rw [slot n1] at s1
    rw [slot n2] at s2
    exact r.inj i j ci cj di dj p g1 g2 h1 h2 s1 s2
  · obtain ⟨⟨d, e1⟩, e2⟩ := r.ios ip hip
    have n : ip.1 ∉ vs := fun hv => by rcases plain_at h hv e1 with z | ⟨_, z⟩ <;> cases z
    exact ⟨⟨d, by rw [wipeE_get, if_neg n]; exact e1⟩, by rw [slot n]; exact e2⟩
  · obtain ⟨n, e⟩ := same e (.inl rfl)
    exact r.ioc i d e
theorem Rel.back (r0 : Rel K io Rv ρ0 F0 σ H0) (r : Rel K io Rv ρ F (wipe σ vs) H) (le : FLe F0 F) (h : plainAt ρ0 vs = true) : Rel K io Rv (backE ρ0 ρ vs) F σ H := by
  have hl : ρ0.length = ρ.length := by rw [r0.len, r.len, wipe_length]
  have slot : ∀ {i}, i ∉ vs → (wipe σ vs)[i]? = σ[i]? := fun {i} hi => by rw [wipe_get, if_neg hi]
  have held : ∀ {i c}, (backE ρ0 ρ vs)[i]? = some c → c.held.isSome = true → i ∉ vs ∧ ρ[i]? = some c := fun {i c} e q => by
    rw [(backE_get hl vs).2] at e
    by_cases hi : i ∈ vs
    · rw [if_pos hi] at e
      rcases plain_at h hi e with z | ⟨_, z⟩ <;> (subst z; cases q)
    · rw [if_neg hi] at e; exact ⟨hi, e⟩
  refine ⟨r.fH, r.rH, r.dj, by rw [(backE_get (i := 0) hl vs).1, r.len, wipe_length], fun i c v e1 e2 => ?_, fun i j ci cj di dj p e1 e2 h1 h2 s1 s2 => ?_, fun ip hip => ?_, (fun i d e => ?_), r.tab, r.nt⟩
  · rw [(backE_get hl vs).2] at e1
    by_cases hi : i ∈ vs
    · rw [if_pos hi] at e1
      have q := r0.cell i c v e1 e2
      rcases plain_at h hi e1 with z | ⟨d, z⟩
      · subst z; trivial
      · subst z; obtain ⟨x, e, q⟩ := q; exact ⟨x, e, q.mono le⟩
    · rw [if_neg hi] at e1
      exact r.cell i c v e1 (by rw [slot hi]; exact e2)
  · obtain ⟨n1, g1⟩ := held e1 (by rw [h1]; rfl)
    obtain ⟨n2, g2⟩ := held e2 (by rw [h2]; rfl)
    exact r.inj i j ci cj di dj p g1 g2 h1 h2 (by rw [slot n1]; exact s1) (by rw [slot n2]; exact s2)
  · obtain ⟨⟨d, e1⟩, e2⟩ := r0.ios ip hip
    have n : ip.1 ∉ vs := fun hv => by rcases plain_at h hv e1 with z | ⟨_, z⟩ <;> cases z
    obtain ⟨⟨d', e3⟩, _⟩ := r.ios ip hip
    exact ⟨⟨d', by rw [(backE_get hl vs).2, if_neg n]; exact e3⟩, e2⟩
  · obtain ⟨n, e⟩ := held e rfl
    exact r.ioc i d e
/-- a new object that is kept -/
theorem Rel.resAdd (r : Rel K io Rv ρ F σ H) {D : Addr} (n : H D = none) (o : HO) (no : ∀ ps, o ≠ .tbl ps := by intro ps z; cases z) (nx : ∀ q, o ≠ LamX.CodeO D q := by intro ps z; unfold LamX.CodeO at z; cases z) : Rel K io (upd Rv D o) ρ F σ (upd H D o) := by
  have r2 := r.newH n o
  refine ⟨r2.fH, fun a u e => ?_, fun a u e => ?_, r2.len, fun i c v e1 e2 => ?_, r2.inj, r2.ios, r2.ioc, fun t ht => let q := r2.tab t ht; let ⟨ps, ep⟩ := (r.tab t ht).tbl; q.mv q.1 (by rw [upd_ne (ne_of_none ep n)]; exact q.2.1) (fun _ e => e) (FLe.refl F) (q.nR.upd no nx), r2.nt⟩
  · by_cases z : a = D
    · subst z; rw [upd_same] at e ⊢; exact e
    · rw [upd_ne z] at e ⊢; exact r.rH a u e
  · rw [upd_ne (fun z => by subst z; rw [r.fH.noneOf n] at e; cases e)]
    exact r.dj a u e
  · have q := r2.cell i c v e1 e2
    have own : ∀ {p d}, v = some (.ref p) → OwnAt K F Rv (upd H D o) p d → c.held = some d → OwnAt K F (upd Rv D o) (upd H D o) p d := fun {p d} hv w hh => by
      refine ⟨w.nF, ?_, w.at_⟩
      rw [upd_ne]
      · exact w.nR
      · intro z
        subst z
        subst hv
        obtain ⟨p', e3, w'⟩ := r.heldAt e1 hh
        rw [e2] at e3
        cases e3
        obtain ⟨o', e4, _⟩ := w'.at_
        rw [n] at e4
        cases e4
    cases c with
    | no => trivial
    | fro d => exact q
    | own d => obtain ⟨p, e, q⟩ := q; exact ⟨p, e, own e q rfl⟩
    | io d => obtain ⟨p, e, q⟩ := q; exact ⟨p, e, own e q rfl⟩
theorem Rel.resPut {D : Addr} {o o' : HO} (r : Rel K io (upd Rv D o) ρ F σ H) (no : ∀ ps, o' ≠ .tbl ps := by intro ps z; cases z) (nx : ∀ q, o' ≠ LamX.CodeO D q := by intro ps z; unfold LamX.CodeO at z; cases z) : Rel K io (upd Rv D o') ρ F σ (upd H D o') := by
  have nF : ∀ a u, F a = some u → a ≠ D := fun a u e z => by subst z; have q := r.dj a u e; rw [upd_same] at q; cases q
  refine ⟨fun a u e => by rw [upd_ne (nF a u e)]; exact r.fH a u e, fun a u e => ?_, fun a u e => ?_, r.len, fun i c v e1 e2 => ?_, r.inj, r.ios, r.ioc, fun t ht => let q := r.tab t ht; have ne : t.1 ≠ D := (fun z => by have w := q.2.1; rw [z, upd_same] at w; cases w); q.mv q.1 (by have w := q.2.1; rw [upd_ne ne] at w; rw [upd_ne ne]; exact w) (fun _ e => by rw [upd_ne ne]; exact e) (FLe.refl F) ⟨fun a ps e => by
    by_cases z : a = D
    · subst z; rw [upd_same] at e; exact no ps (Option.some.inj e)
    · rw [upd_ne z] at e; exact q.nR.1 a ps (by rw [upd_ne z]; exact e), fun a ps e => by
    by_cases z : a = D
    · subst z; rw [upd_same] at e; exact nx ps (Option.some.inj e)
    · rw [upd_ne z] at e; exact q.nR.2 a ps (by rw [upd_ne z]; exact e)⟩, r.nt⟩
  · by_cases z : a = D
    · subst z; rw [upd_same] at e ⊢; exact e
    · rw [upd_ne z] at e ⊢; exact r.rH a u (by rw [upd_ne z]; exact e)
  · have q := r.dj a u e
    rw [upd_ne (nF a u e)] at q ⊢
    exact q
  · have q := r.cell i c v e1 e2
    have own : ∀ {p d}, OwnAt K F (upd Rv D o) H p d → OwnAt K F (upd Rv D o') (upd H D o') p d := fun {p d} w => by
      have ne : p ≠ D := fun z => by subst z; have q := w.nR; rw [upd_same] at q; cases q
      obtain ⟨ob, e, w3⟩ := w.at_
      exact ⟨w.nF, by rw [upd_ne ne]; have q := w.nR; rw [upd_ne ne] at q; exact q, ob, by rw [upd_ne ne]; exact e, w3⟩
    cases c with
    | no => trivial
    | fro d => exact q
    | own d => obtain ⟨p, e, q⟩ := q; exact ⟨p, e, own q⟩
    | io d => obtain ⟨p, e, q⟩ := q; exact ⟨p, e, own q⟩
theorem Rel.resDrop {D : Addr} {o : HO} (r : Rel K io (upd Rv D o) ρ F σ H) (n : Rv D = none) : Rel K io Rv ρ F σ H ∧ F D = none ∧ H D = some o ∧ Loose ρ σ D := by
  have sub : ∀ a u, Rv a = some u → a ≠ D := fun a u e z => by subst z; rw [n] at e; cases e
  have own : ∀ {p d}, OwnAt K F (upd Rv D o) H p d → p ≠ D ∧ OwnAt K F Rv H p d := fun {p d} w => by
    have ne : p ≠ D := fun z => by subst z; have q := w.nR; rw [upd_same] at q; cases q
    exact ⟨ne, w.nF, by have q := w.nR; rw [upd_ne ne] at q; exact q, w.at_⟩
  refine ⟨⟨r.fH, fun a u e => r.rH a u (by rw [upd_ne (sub a u e)]; exact e), fun a u e => ?_, r.len, fun i c v e1 e2 => ?_, r.inj, r.ios, r.ioc, fun t ht => let q := r.tab t ht; have ne : t.1 ≠ D := (fun z => by have w := q.2.1; rw [z, upd_same] at w; cases w); q.mv q.1 (by have w := q.2.1; rw [upd_ne ne] at w; exact w) (fun _ e => e) (FLe.refl F) ⟨fun a ps e => q.nR.1 a ps (by rw [upd_ne (sub a _ e)]; exact e), fun a ps e => q.nR.2 a ps (by rw [upd_ne (sub a _ e)]; exact e)⟩, r.nt⟩, ?_, r.rH D o upd_same, fun i c d e1 e2 e3 => ?_⟩
  · have q := r.dj a u e
    cases e2 : Rv a with
    | none => rfl
    | some w => rw [upd_ne (sub a w e2), e2] at q; cases q
  · have q := r.cell i c v e1 e2
    cases c with
    | no => trivial
    | fro d => exact q
    | own d => obtain ⟨p, e, q⟩ := q; exact ⟨p, e, (own q).2⟩
    | io d => obtain ⟨p, e, q⟩ := q; exact ⟨p, e, (own q).2⟩
  · cases e : F D with
    | none => rfl
    | some u => have q := r.dj D u e; rw [upd_same] at q; cases q
  · obtain ⟨p, e4, w⟩ := r.heldAt e1 e2
    rw [e3] at e4
    cases e4
    exact (own w).1 rfl
end
end
end Dt
set_option Elab.async false
set_option linter.all false
set_option maxRecDepth 100000
set_option maxHeartbeats 2000000
namespace Dt
open PySem PySem.Spec PyProof.Rows L2
variable [HW]
theorem drop_at {α : Type} {l : List α} {i : Nat} (h : i < l.length) : ∃ x, l[i]? = some x ∧ l.drop i = x :: l.drop (i + 1) := ⟨l[i], by simp [h], List.drop_eq_getElem_cons h⟩
section
variable {ex : Exx} {X : Cx} {W : WX} {a b c e tg : Expr} {es : List Expr} {pos p : Pos} {sa sb sc : SO} {ea eb : SE} {sB : SB} {sA : SA} {x : Str} {id : String}
theorem comp_core {G : Gx} {σ : L2.St} {H : Hp} {Q : VK} {it : SA} {g : SG} {t : ST} {s : SE} {js vs : List Nat} (hjs : js.all (fun j => vs.contains j) = true) (h : tF G W (sComp vs it g t s) σ H Q) :
    tLc (tI G W it) (tG G W0 js g) (tT G W0 t) (tE G W0 s) vs σ H Q := by
    obtain ⟨ρ, F, Rv, io, rel, q⟩ := h
    refine ⟨ρ, F, Rv, io, rel, ?_⟩
    unfold sComp at q
    cases e : it ρ with
    | stuck => rw [e] at q; exact q.elim
    | exc x ρ' => rw [e] at q; exact q
    | ok ds ρ1 =>
      rw [e, R.bind_ok] at q
      intro J H1 F1 le1 rel1 J1 Dl hD
      by_cases hp : plainAt ρ1 vs = true ∧ ds.length ≤ sizeLine
      case neg => rw [if_neg hp] at q; exact q.elim
      rw [if_pos hp] at q
      obtain ⟨hpl, hz⟩ := hp
      cases e2 : compGo vs g t s ds (wipeE ρ1 vs) with
      | stuck => rw [e2] at q; exact q.elim
      | exc x ρ' => rw [e2] at q; exact q.elim
      | ok zs ρe =>
        rw [e2] at q
        have nR : Rv Dl = none := rel1.rH.noneOf hD
        refine ⟨fun i m H => m = ds.length - i ∧ i ≤ ds.length ∧ ∃ (ρi : Env) (Fi : Hp) (acc : List V) (dn rest : List D), FLe F1 Fi ∧ Rel G.K io (upd Rv Dl (.lst acc)) ρi Fi (wipe σ vs) H ∧ acc.length ≤ i ∧ Rps G.K Fi acc dn ∧
          compGo vs g t s (ds.drop i) ρi = .ok rest ρe ∧ dn ++ rest = zs, ⟨ds.length, rfl.trans (Nat.sub_zero _).symm, Nat.zero_le _, wipeE ρ1 vs, F1, [], [], zs, FLe.refl _, (rel1.wiped hpl).resAdd hD _, Nat.le_refl _, .nil, e2, rfl⟩, ?_⟩
        rintro i m H ⟨rfl, hi, ρi, Fi, acc, dn, rest, lei, reli, hacc, racc, hgo, hzs⟩
        by_cases hlt : i < ds.length
        · obtain ⟨d, hd, hdr⟩ := drop_at hlt
          rw [hdr] at hgo
          unfold compGo at hgo
          refine .inr ⟨J1.go i Fi H lei reli.fH hlt, fun H' => ∃ (ρ2 : Env) (F2 : Hp) (acc2 : List V) (dn2 rest2 : List D), FLe F1 F2 ∧ Rel G.K io (upd Rv Dl (.lst acc2)) ρ2 F2 (wipe σ vs) H' ∧ acc2.length ≤ i + 1 ∧ Rps G.K F2 acc2 dn2 ∧
              compGo vs g t s (ds.drop (i + 1)) ρ2 = .ok rest2 ρe ∧ dn2 ++ rest2 = zs, fun H' z => ⟨ds.length - (i + 1), by omega, rfl, hlt, z⟩, fun xv H' y => ?_⟩
          obtain ⟨F2, nw, rp⟩ := J1.yld i Fi H H' xv d lei reli.fH hd y
          have rel2 := reli.after nw
          refine ⟨d, ρi, F2, _, io, rel2, rp, ?_⟩
          cases e3 : g d ρi with
          | stuck => rw [e3] at hgo; cases hgo
          | exc x ρ' => rw [e3] at hgo; cases hgo
          | ok u ρ3 =>
            rw [e3, R.bind_ok] at hgo
            intro σ3 H3 F3 le3 rel3 hj3
            have hjs' : ∀ j, j ∉ vs → σ3[j]? = (wipe σ vs)[j]? := fun j hj => hj3.2 j fun z => hj (by
              have w := List.all_eq_true.mp hjs j z
              simpa using w)
            have hl3 : σ3.length = σ.length := hj3.1.trans (wipe_length σ vs)
            have hw := wipe_same hl3 hjs'
            refine ⟨hw, ρ3, F3, _, io, rel3, ?_⟩
            cases e4 : t ρ3 with
            | stuck => rw [e4] at hgo; cases hgo
            | exc x ρ' => rw [e4] at hgo; cases hgo
            | ok k ρ4 =>
              rw [e4, R.bind_ok] at hgo
              intro H4 F4 le4 rel4
              cases k with
              | false =>
                refine iteF ?_
                have hgo : (if plainAt ρ4 vs = true then compGo vs g t s (ds.drop (i + 1)) (wipeE ρ4 vs) else .stuck) = R.ok rest ρe := hgo
                by_cases hp4 : plainAt ρ4 vs = true
                · rw [if_pos hp4] at hgo
                  have le := (nw.f.trans le3).trans le4
                  refine ⟨wipeE ρ4 vs, F4, acc, dn, rest, lei.trans le, ?_, Nat.le_succ_of_le hacc, racc.mono le, hgo, hzs⟩
                  have r := rel4.wiped hp4
                  rw [hw] at r
                  exact r
                · rw [if_neg hp4] at hgo; cases hgo
              | true =>
                refine iteT ⟨ρ4, F4, _, io, rel4, ?_⟩
                have hgo : ((s ρ4).bind fun z ρ3 => if plainAt ρ3 vs = true then (compGo vs g t s (ds.drop (i + 1)) (wipeE ρ3 vs)).bind fun zs ρ4 => .ok (z :: zs) ρ4 else .stuck) = R.ok rest ρe := hgo
                cases e5 : s ρ4 with
                | stuck => rw [e5] at hgo; cases hgo
                | exc x ρ' => rw [e5] at hgo; cases hgo
                | ok z ρ5 =>
                  rw [e5, R.bind_ok] at hgo
                  intro yv H5 F5 le5 rel5 rp5
                  by_cases hp5 : plainAt ρ5 vs = true
                  · rw [if_pos hp5] at hgo
                    cases e6 : compGo vs g t s (ds.drop (i + 1)) (wipeE ρ5 vs) with
                    | stuck => rw [e6] at hgo; cases hgo
                    | exc x ρ' => rw [e6] at hgo; cases hgo
                    | ok rest' ρ6 =>
                      rw [e6, R.bind_ok] at hgo
                      have eq1 : z :: rest' = rest ∧ ρ6 = ρe := by cases hgo; exact ⟨rfl, rfl⟩
                      obtain ⟨rfl, rfl⟩ := eq1
                      have le := ((nw.f.trans le3).trans le4).trans le5
                      refine ⟨acc, rel5.rH Dl _ upd_same, Nat.lt_of_le_of_lt hacc (Nat.lt_of_lt_of_le hlt hz), wipeE ρ5 vs, F5, acc ++ [yv], dn ++ [z], rest', lei.trans le, ?_, by rw [List.length_append]; simpa using hacc, (racc.mono le).append (.cons rp5 .nil), e6, by simp [← hzs]⟩
                      have r := rel5.wiped hp5
                      rw [hw] at r
                      exact r.resPut
                  · rw [if_neg hp5] at hgo; cases hgo
        · have hi2 : i = ds.length := by omega
          subst hi2
          rw [List.drop_eq_nil_of_le (Nat.le_refl _)] at hgo
          unfold compGo at hgo
          cases hgo
          refine .inl ⟨J1.stop Fi H lei reli.fH, ?_⟩
          obtain ⟨relD, n1, n2, lo⟩ := reli.resDrop nR
          have relB := rel1.back (vs := vs) relD lei hpl
          refine q Dl H Fi (le1.trans lei) relB ⟨n1, nR, _, n2, acc, rfl, ?_⟩ fun i c d e1 e2 e3 => ?_
          · rw [List.append_nil] at hzs
            subst hzs
            exact racc
          · have hlen : ρ1.length = ρe.length := by rw [rel1.len, relD.len, wipe_length]
            rw [(backE_get hlen vs).2] at e1
            by_cases hi : i ∈ vs
            · rw [if_pos hi] at e1
              rcases plain_at hpl hi e1 with z | ⟨_, z⟩ <;> (subst z; cases e2)
            · rw [if_neg hi] at e1
              exact lo i c d e1 e2 (by rw [wipe_get, if_neg hi]; exact e3)
theorem d_compF {elt iter : Expr} {ifs : List Expr} {scope : Scope} {own : List (Str × Nat)} {it : SA} {g : SG} {t : ST} {s : SE} {js : List Nat} (hu : At X W) (hi : DI (GK X ex) X W tg iter it) (ok : BlkOk X.N X.env.scope scope own)
    (hg : ∀ (s : Shared) (H : Hp) (C : Addr) (cl : List (Str × Addr)) (fp : List Addr), DG (GK X ex) (X.blk s H scope (compEnvC scope cl C X.env) fp) W0 js tg g)
    (ht : ∀ (s : Shared) (H : Hp) (C : Addr) (cl : List (Str × Addr)) (fp : List Addr), PTs (X.blk s H scope (compEnvC scope cl C X.env) fp) ifs (tT (GK X ex) W0 t))
    (he : ∀ (s' : Shared) (H : Hp) (C : Addr) (cl : List (Str × Addr)) (fp : List Addr), DE (GK X ex) (X.blk s' H scope (compEnvC scope cl C X.env) fp) W0 elt s) (hjs : js.all (fun j => (own.map (·.2)).contains j) = true) (hs : ∀ x, foldedSetIterable iter X.env x = pure x := by intro _; rfl) :
    DF (GK X ex) X W (.ListComp elt [⟨tg, iter, ifs, 0⟩] scope pos) (sComp (own.map (·.2)) it g t s) :=
  wkE (pe_lc hu.calm hu.nd hi ok hg ht he hs) fun σ H Q h => comp_core hjs h
def sAsg (g : SG) (s : SE) : SS := fun ρ => (s ρ).bind fun d ρ' => (g d ρ').bind fun _ ρ'' => .ok .nx ρ''
theorem asg_core {G : Gx} {σ : L2.St} {H : Hp} {D : Ends} {g : SG} {s : SE} {js : List Nat} (h : tS G W (sAsg g s) D σ H) : tE G W s σ H fun v H1 => tG G W js g v σ H1 D.nx := by
  obtain ⟨ρ, F, Rv, io, rel, q⟩ := h
  refine ⟨ρ, F, Rv, io, rel, ?_⟩
  unfold sAsg at q
  cases e : s ρ with
  | stuck => rw [e] at q; exact q.elim
  | exc x ρ' => rw [e] at q; exact q
  | ok d ρ' =>
    rw [e, R.bind_ok] at q
    intro v H' F' le rel' rp
    refine ⟨d, ρ', F', Rv, io, rel', rp, ?_⟩
    cases e2 : g d ρ' with
    | stuck => rw [e2] at q; exact q.elim
    | exc x ρ'' => rw [e2] at q; exact XPost.le q le
    | ok u ρ'' => rw [e2] at q; exact fun σ' H2 F2 le2 rel2 _ => q σ' H2 F2 (le.trans le2) rel2
theorem d_asg {g : SG} {js : List Nat} (he : DE (GK X ex) X W e ea) (hg : DG (GK X ex) X W js tg g) (hs : swapsWithSole [tg] e pos.line X.env = pure false := by rfl) (hw : swappedStores [tg] e X.env = pure none := by rfl)
    (h1 : (assignEach [tg] X.env).map (·.2) = [assign tg X.env] := by rfl) : DS (GK X ex) X W (.Assign [tg] e pos) (sAsg g ea) := wkS (ps_asg he hg hs hw h1) fun D σ H h => asg_core h
theorem d_setN {i : Nat} {pos' : Pos} (nd : X.N.Nodup) (hi : X.N[i]? = some x) (hx : Loc X.env.scope x) (he : DE (GK X ex) X W e ea) (hs : swapsWith e (some (.Name x pos')) pos.line X.env = pure false := by rfl) (hf : X.fn x = true ∨ X.env.scope.names.lookup x = some .local := by first | exact .inl rfl | exact .inr rfl | assumption) :
    DS (GK X ex) X W (.Assign [.Name x pos'] e pos) (sAsg (gSet i) ea) := wkS (ps_set nd hi hx he hs hf) fun D σ H h => tE_mono (asg_core (js := [i]) h) fun v H1 z => by
      obtain ⟨d, ρ, F, Rv, io, rel, rp, q⟩ := z
      show D.nx (σ.set i (some v)) H1
      cases e2 : gSet i d ρ with
      | stuck => rw [e2] at q; exact q.elim
      | exc x ρ'' => unfold gSet at e2; split at e2 <;> cases e2
      | ok u ρ'' =>
        rw [e2] at q
        obtain ⟨h1, rfl⟩ := gSet_ok e2
        exact q _ H1 F (FLe.refl F) (rel.setFro rp h1) ⟨List.length_set, fun j hj => List.getElem?_set_ne fun z => hj (by simp [z])⟩
theorem d_set {i : Nat} {pos' : Pos} (hu : At X W) (hi : X.N[i]? = some x) (hx : Loc X.env.scope x) (he : DE (GK X ex) X W e ea) (hs : swapsWith e (some (.Name x pos')) pos.line X.env = pure false := by rfl) (hf : X.fn x = true ∨ X.env.scope.names.lookup x = some .local := by first | exact .inl rfl | exact .inr rfl | assumption) :
    DS (GK X ex) X W (.Assign [.Name x pos'] e pos) (sAsg (gSet i) ea) := d_setN hu.nd hi hx he hs hf
/-- a new object becomes the variable's own -/
def gOwn (i : Nat) : SG := fun d ρ => match ρ[i]? with
  | some (.io _) => .stuck
  | none => .stuck
  | _ => .ok () (ρ.set i (.own d))
theorem gOwn_ok {ρ ρ' : Env} {i : Nat} {d : D} {u : Unit} (h : gOwn i d ρ = .ok u ρ') : (∀ e, ρ[i]? ≠ some (Cell.io e)) ∧ ρ' = ρ.set i (.own d) := by
  unfold gOwn at h
  split at h
  · cases h
  · cases h
  · rename_i h1 h2
    cases h
    exact ⟨fun e z => h1 e z, rfl⟩
theorem own_core {G : Gx} {σ : L2.St} {H : Hp} {D : Ends} {i : Nat} {s : SE} (h : tS G W (sAsg (gOwn i) s) D σ H) : tF G W s σ H fun v H1 => D.nx (σ.set i (some v)) H1 := by
  obtain ⟨ρ, F, Rv, io, rel, q⟩ := h
  refine ⟨ρ, F, Rv, io, rel, ?_⟩
  unfold sAsg at q
  cases e : s ρ with
  | stuck => rw [e] at q; exact q.elim
  | exc x ρ' => rw [e] at q; exact q
  | ok d ρ' =>
    rw [e, R.bind_ok] at q
    intro v H' F' le rel' ow lo
    cases e2 : gOwn i d ρ' with
    | stuck => rw [e2] at q; exact q.elim
    | exc x ρ'' => unfold gOwn at e2; split at e2 <;> cases e2
    | ok u ρ'' =>
      rw [e2] at q
      obtain ⟨h1, rfl⟩ := gOwn_ok e2
      exact q _ H' F' le (rel'.setOwn ow lo h1)
theorem d_setFN {i : Nat} {pos' : Pos} (nd : X.N.Nodup) (hi : X.N[i]? = some x) (hx : Loc X.env.scope x) (he : DF (GK X ex) X W e ea) (hs : swapsWith e (some (.Name x pos')) pos.line X.env = pure false := by rfl) (hf : X.fn x = true ∨ X.env.scope.names.lookup x = some .local := by first | exact .inl rfl | exact .inr rfl | assumption) :
    DS (GK X ex) X W (.Assign [.Name x pos'] e pos) (sAsg (gOwn i) ea) := wkS (ps_set nd hi hx he hs hf) fun D σ H h => own_core h
theorem d_setF {i : Nat} {pos' : Pos} (hu : At X W) (hi : X.N[i]? = some x) (hx : Loc X.env.scope x) (he : DF (GK X ex) X W e ea) (hs : swapsWith e (some (.Name x pos')) pos.line X.env = pure false := by rfl) (hf : X.fn x = true ∨ X.env.scope.names.lookup x = some .local := by first | exact .inl rfl | exact .inr rfl | assumption) :
    DS (GK X ex) X W (.Assign [.Name x pos'] e pos) (sAsg (gOwn i) ea) := d_setFN hu.nd hi hx he hs hf
/-- x = [..] on one line -/
theorem d_setComp {i : Nat} {pos' : Pos} {elt iter : Expr} {ifs : List Expr} {scope : Scope} {own : List (Str × Nat)} {it : SA} {g : SG} {t : ST} {s : SE} {js : List Nat} {cpos : Pos} (hu : At X W) (hy : X.N[i]? = some x) (hyl : X.env.scope.names.lookup x = some .local)
    (hsw : swapsWith (.ListComp elt [⟨tg, iter, ifs, 0⟩] scope cpos) (some (.Name x pos')) pos.line X.env = pure true) (hi : DI (GK X ex) X W tg iter it) (ok : BlkOk X.N X.env.scope scope own)
    (hg : ∀ (s : Shared) (H : Hp) (C : Addr) (cl : List (Str × Addr)) (fp : List Addr), DG (GK X ex) (X.blk s H scope (compEnvC scope cl C X.env) fp) W0 js tg g)
    (ht : ∀ (s : Shared) (H : Hp) (C : Addr) (cl : List (Str × Addr)) (fp : List Addr), PTs (X.blk s H scope (compEnvC scope cl C X.env) fp) ifs (tT (GK X ex) W0 t))
    (he : ∀ (s' : Shared) (H : Hp) (C : Addr) (cl : List (Str × Addr)) (fp : List Addr), DE (GK X ex) (X.blk s' H scope (compEnvC scope cl C X.env) fp) W0 elt s) (hjs : js.all (fun j => (own.map (·.2)).contains j) = true) (hs : ∀ x, foldedSetIterable iter X.env x = pure x := by intro _; rfl) :
    DS (GK X ex) X W (.Assign [.Name x pos'] (.ListComp elt [⟨tg, iter, ifs, 0⟩] scope cpos) pos) (sAsg (gOwn i) (sComp (own.map (·.2)) it g t s)) :=
  wkS (ps_setLc hu.calm hu.nd hy hyl hsw hi ok hg ht he hs) fun D σ H h => comp_core hjs (own_core h)
def sExpr (s : SE) : SS := fun ρ => (s ρ).bind fun _ ρ' => .ok .nx ρ'
theorem d_expr (he : DE (GK X ex) X W e ea) (hs : swapsWith e none pos.line X.env = pure false := by rfl) : DS (GK X ex) X W (.Expr e pos) (sExpr ea) := wkS (ps_expr he hs) fun D σ H ⟨ρ, F, Rv, io, rel, q⟩ => by
  refine ⟨ρ, F, Rv, io, rel, ?_⟩
  unfold sExpr at q
  cases e : ea ρ with
  | stuck => rw [e] at q; exact q.elim
  | exc x ρ' => rw [e] at q; exact q
  | ok d ρ' => rw [e] at q; exact fun v H' F' le rel' _ => q σ H' F' le rel'
def sRet (s : SE) : SS := fun ρ => (s ρ).bind fun d ρ' => .ok (.rt d) ρ'
theorem d_ret (he : DE (GK X ex) X W e ea) : DS (GK X ex) X W (.Return (some e) pos) (sRet ea) := wkS (ps_ret he) fun D σ H ⟨ρ, F, Rv, io, rel, q⟩ => by
  refine ⟨ρ, F, Rv, io, rel, ?_⟩
  unfold sRet at q
  cases e : ea ρ with
  | stuck => rw [e] at q; exact q.elim
  | exc x ρ' => rw [e] at q; exact q
  | ok d ρ' => rw [e] at q; exact fun v H' F' le rel' rp => q v σ H' F' le rel' rp
def sNx : SS := fun ρ => .ok .nx ρ
def sSeq (a b : SS) : SS := fun ρ => (a ρ).bind fun f ρ' => match f with
  | .nx => b ρ'
  | f => .ok f ρ'
theorem SPost.le {G : Gx} {T : List (Addr × Str)} {io : Io T} {Rv F F1 : Hp} {r : R Fl} {D : Ends} (h : SPost G W io Rv F r D) (le : FLe F F1) : SPost G W io Rv F1 r D := by
  cases r with
  | stuck => exact h
  | exc x ρ' => exact XPost.le h le
  | ok f ρ' =>
    cases f with
    | nx => exact fun σ' H' F' l => h σ' H' F' (le.trans l)
    | bk => exact fun σ' H' F' l => h σ' H' F' (le.trans l)
    | ct => exact fun σ' H' F' l => h σ' H' F' (le.trans l)
    | rt d => exact fun v σ' H' F' l => h v σ' H' F' (le.trans l)
theorem d_snil : DSs (GK X ex) X W [] sNx := wkSs pss_nil fun D σ H ⟨ρ, F, Rv, io, rel, q⟩ => q σ H F (FLe.refl F) rel
theorem d_sone {st : Stmt} {s : SS} (h : DS (GK X ex) X W st s) : DSs (GK X ex) X W [st] s := pss_one h
theorem d_scons {st : Stmt} {rest : List Stmt} {s t : SS} (h : DS (GK X ex) X W st s) (h2 : DSs (GK X ex) X W rest t) : DSs (GK X ex) X W (st :: rest) (sSeq s t) := wkSs (pss_cons h h2) fun D σ H ⟨ρ, F, Rv, io, rel, q⟩ => by
  refine ⟨ρ, F, Rv, io, rel, ?_⟩
  unfold sSeq at q
  cases e : s ρ with
  | stuck => rw [e] at q; exact q.elim
  | exc x ρ' => rw [e] at q; exact q
  | ok f ρ' =>
    rw [e, R.bind_ok] at q
    cases f with
    | nx => exact fun σ' H' F' le rel' => ⟨ρ', F', Rv, io, rel', SPost.le q le⟩
    | bk => exact q
    | ct => exact q
    | rt d => exact q
def sIfS (t : ST) (a b : SS) : SS := fun ρ => (t ρ).bind fun k ρ' => match k with
  | true => a ρ'
  | false => b ρ'
theorem d_ifS {t : ST} {l r : List Stmt} {s u : SS} (hc : DT (GK X ex) X W c t) (h : DSs (GK X ex) X W l s) (h2 : DSs (GK X ex) X W r u) : DS (GK X ex) X W (.If c l r pos) (sIfS t s u) := wkS (ps_if hc h h2) fun D σ H ⟨ρ, F, Rv, io, rel, q⟩ => by
  refine ⟨ρ, F, Rv, io, rel, ?_⟩
  unfold sIfS at q
  cases e : t ρ with
  | stuck => rw [e] at q; exact q.elim
  | exc x ρ' => rw [e] at q; exact q
  | ok k ρ' =>
    rw [e, R.bind_ok] at q
    intro H' F' le rel'
    cases k with
    | true => exact iteT ⟨ρ', F', Rv, io, rel', SPost.le q le⟩
    | false => exact iteF ⟨ρ', F', Rv, io, rel', SPost.le q le⟩
/-- for .. in ..: one turn after another -/
def forGo (g : SG) (s : SS) : List D → SS
  | [], ρ => .ok .nx ρ
  | d :: ds, ρ => (g d ρ).bind fun _ ρ1 => (s ρ1).bind fun f ρ2 => match f with
    | .nx => forGo g s ds ρ2
    | .ct => forGo g s ds ρ2
    | .bk => .ok .nx ρ2
    | .rt d => .ok (.rt d) ρ2
def sFor (it : SA) (g : SG) (s : SS) : SS := fun ρ => (it ρ).bind fun ds ρ' => forGo g s ds ρ'
theorem d_for {iter : Expr} {body : List Stmt} {it : SA} {g : SG} {s : SS} {js : List Nat} (hu : At X W) (hp : PassesOwn (model X.prog X.w) X.A X.env X.xe) (hi : DI (GK X ex) X W tg iter it) (hg : DG (GK X ex) X W js tg g) (hb : DSs (GK X ex) X W body s)
    (hs : ∀ x, foldedSetIterable iter X.env x = pure x := by intro _; rfl) : DS (GK X ex) X W (.For tg iter body [] pos) (sFor it g s) := wkS (ps_for hp hu.calm hi hg hb hs) fun D σ H ⟨ρ, F, Rv, io, rel, q⟩ => by
  refine ⟨ρ, F, Rv, io, rel, ?_⟩
  unfold sFor at q
  cases e : it ρ with
  | stuck => rw [e] at q; exact q.elim
  | exc x ρ' => rw [e] at q; exact q
  | ok ds ρ1 =>
    rw [e, R.bind_ok] at q
    intro J H1 F1 le1 rel1 J1
    refine ⟨fun i m σ H => m = ds.length - i ∧ i ≤ ds.length ∧ ∃ (ρi : Env) (Fi : Hp), FLe F1 Fi ∧ Rel X.K io Rv ρi Fi σ H ∧ SPost (GK X ex) W io Rv Fi (forGo g s (ds.drop i) ρi) D, ⟨ds.length, rfl.trans (Nat.sub_zero _).symm, Nat.zero_le _, ρ1, F1, FLe.refl _, rel1, SPost.le q le1⟩, ?_⟩
    rintro i m σ H ⟨rfl, hi, ρi, Fi, lei, reli, qi⟩
    by_cases hlt : i < ds.length
    · obtain ⟨d, hd, hdr⟩ := drop_at hlt
      rw [hdr] at qi
      unfold forGo at qi
      refine .inr ⟨J1.go i Fi H lei reli.fH hlt, fun σ H => ∃ (ρi : Env) (Fi : Hp), FLe F1 Fi ∧ Rel X.K io Rv ρi Fi σ H ∧ SPost (GK X ex) W io Rv Fi (forGo g s (ds.drop (i + 1)) ρi) D, fun σ' H' z => ⟨ds.length - (i + 1), by omega, rfl, hlt, z⟩, fun xv H' y => ?_⟩
      obtain ⟨F2, nw, rp⟩ := J1.yld i Fi H H' xv d lei reli.fH hd y
      refine ⟨d, ρi, F2, Rv, io, reli.after nw, rp, ?_⟩
      cases e3 : g d ρi with
      | stuck => rw [e3] at qi; exact qi.elim
      | exc x ρ' => rw [e3] at qi; exact XPost.le qi nw.f
      | ok u ρ3 =>
        rw [e3, R.bind_ok] at qi
        intro σ3 H3 F3 le3 rel3 _
        refine ⟨ρ3, F3, Rv, io, rel3, ?_⟩
        cases e4 : s ρ3 with
        | stuck => rw [e4] at qi; exact qi.elim
        | exc x ρ' => rw [e4] at qi; exact XPost.le qi (nw.f.trans le3)
        | ok f ρ4 =>
          rw [e4, R.bind_ok] at qi
          have le := nw.f.trans le3
          cases f with
          | nx => exact fun σ4 H4 F4 le4 rel4 => ⟨ρ4, F4, lei.trans (le.trans le4), rel4, SPost.le qi (le.trans le4)⟩
          | ct => exact fun σ4 H4 F4 le4 rel4 => ⟨ρ4, F4, lei.trans (le.trans le4), rel4, SPost.le qi (le.trans le4)⟩
          | bk => exact fun σ4 H4 F4 le4 rel4 => qi σ4 H4 F4 (le.trans le4) rel4
          | rt d => exact fun v σ4 H4 F4 le4 rel4 => qi v σ4 H4 F4 (le.trans le4) rel4
    · have hi2 : i = ds.length := by omega
      subst hi2
      rw [List.drop_eq_nil_of_le (Nat.le_refl _)] at qi
      unfold forGo at qi
      exact .inl ⟨J1.stop Fi H lei reli.fH, qi σ H Fi (FLe.refl _) reli⟩
end
end Dt
set_option Elab.async false
set_option linter.all false
set_option maxRecDepth 100000
set_option maxHeartbeats 2000000
namespace Dt
open PySem PySem.Spec PyProof.Rows L2
variable [HW]
section
variable {ex : Exx} {X : Cx} {W : WX} {a b c e o tg : Expr} {es : List Expr} {pos p : Pos} {sa sb sc : SO} {ea eb : SE} {sB : SB} {sA : SA} {x : Str} {id : String}
def dPut (ks : List Key) (ds : List D) (k : Key) (z : D) : List Key × List D :=
  if (ks.any fun k' => decide (k' = k)) = true then (ks, List.zipWith (fun k' d => if k' = k then z else d) ks ds) else (ks ++ [k], ds ++ [z])
theorem dPut_put {K : PySem.W.Frag} {F : Hp} {k : Key} {v : V} {z : D} (rv : Rp K F v z) {kvs : List (Key × V)} {ds : List D} (r : Rps K F (kvs.map (·.2)) ds) :
    ((putK kvs k v).map (·.1)) = (dPut (kvs.map (·.1)) ds k z).1 ∧ Rps K F ((putK kvs k v).map (·.2)) (dPut (kvs.map (·.1)) ds k z).2 := by
  unfold putK dPut
  rw [List.any_map]
  by_cases h : (kvs.any fun kv => decide (kv.1 = k)) = true
  · have h' : (kvs.any ((fun k' => decide (k' = k)) ∘ fun x => x.1)) = true := h
    rw [if_pos h, if_pos h']
    refine ⟨?_, ?_⟩
    · show List.map _ _ = List.map _ kvs
      rw [List.map_map]
      refine List.map_congr_left fun kv _ => ?_
      show (if kv.1 = k then (kv.1, v) else kv).1 = kv.1
      split <;> rfl
    · clear h h'
      induction kvs generalizing ds with
      | nil => cases r; exact .nil
      | cons kv kvs ih =>
        cases r with
        | cons r1 rr =>
          simp only [List.map_cons, List.zipWith_cons_cons]
          refine .cons ?_ (ih rr)
          split
          · exact rv
          · exact r1
  · have h' : ¬ (kvs.any ((fun k' => decide (k' = k)) ∘ fun x => x.1)) = true := h
    rw [if_neg h, if_neg h', List.map_append, List.map_append]
    exact ⟨rfl, r.append (.cons rv .nil)⟩
/-- the new content -/
def putD (d i z : D) : Option D := match d with
  | .lst xs => match i with
    | .int j => (ixN xs.length j).map fun n => .lst (xs.set n z)
    | _ => none
  | .dct ks ds => (keyOf i).bind fun k => if ks.length < sizeLine then some (.dct (dPut ks ds k z).1 (dPut ks ds k z).2) else none
  | _ => none
def rSetA : TSet := fun o i v H Q => rSetL o i v H Q ∨ ∃ a H', o = .ref a ∧ DPut H a i v H' ∧ Q H'
theorem set_any (hu : X.A.units + 64 < cLine) : PSet X rSetA := by
  intro pins s σ H o i v ov iv u Q I ro ri rv h
  rcases h with h | ⟨a, H', rfl, hp, q⟩
  · exact set_list pins s σ H o i v ov iv u Q I ro ri rv h
  · obtain rfl : ov = Value.ref a := ro
    exact d_setItem (by omega) I hp ri rv fun s' I' => ⟨H', I', q⟩
/-- the variable at i: its own list or dict, what it holds -/
def held (ρ : Env) (i : Nat) : Option D := (ρ[i]?).bind Cell.held
def put (ρ : Env) (i : Nat) (d : D) : Env := match ρ[i]? with
  | some c => ρ.set i (c.put d)
  | none => ρ
theorem put_own {G : Gx} {T : List (Addr × Str)} {io : Io T} {Rv F H : Hp} {ρ : Env} {σ : L2.St} {i : Nat} {d d' : D} (r : Rel G.K io Rv ρ F σ H) (h : held ρ i = some d) : ∃ p ob, σ[i]? = some (some (.ref p)) ∧ H p = some ob ∧ OwnObj G.K F p ob d ∧ ∀ ob', OwnObj G.K F p ob' d' → Rel G.K io Rv (put ρ i d') F σ (upd H p ob') := by
  unfold held at h
  cases e : ρ[i]? with
  | none => rw [e] at h; cases h
  | some c =>
    rw [e] at h
    have h : c.held = some d := h
    obtain ⟨p, e1, w⟩ := r.heldAt e h
    obtain ⟨ob, e2, e3⟩ := w.at_
    refine ⟨p, ob, e1, e2, e3, fun ob' ho => ?_⟩
    have q := r.write e h e1 ho
    unfold put
    rw [e]
    exact q
theorem putD_set {G : Gx} {F H : Hp} {d i z d' : D} {p : Addr} {ob : HO} {iv v : V} {Q : Hp → Prop} (fh : FLe F H) (hp : H p = some ob) (ho : OwnObj G.K F p ob d) (hi : Vw G.K F H iv i) (hv : Rp G.K F v z) (e : putD d i z = some d')
    (q : ∀ ob', OwnObj G.K F p ob' d' → Q (upd H p ob')) : rSetA (.ref p) iv v H Q := by
  cases d with
  | lst xs =>
    cases i with
    | int j =>
      obtain ⟨vs, rfl, r⟩ := ho
      simp only [putD] at e
      cases e2 : ixN xs.length j with
      | none => rw [e2] at e; cases e
      | some n =>
        rw [e2] at e
        cases e
        exact .inl ⟨p, vs, j, n, rfl, hi.int, hp, by rw [r.length]; exact e2, q _ ⟨_, rfl, r.set n hv⟩⟩
    | _ => simp only [putD] at e; cases e
  | dct ks ds =>
    obtain ⟨kvs, rfl, rfl, r⟩ := ho
    simp only [putD] at e
    cases e2 : keyOf i with
    | none => rw [e2] at e; cases e
    | some k =>
      rw [e2, Option.bind_some] at e
      split at e
      · rename_i hz
        cases e
        have ei := keyOf_vw hi e2
        subst ei
        obtain ⟨h1, h2⟩ := dPut_put (k := k) hv r
        exact .inr ⟨p, _, rfl, .inl ⟨kvs, k, hp, rfl, by simpa using hz, rfl⟩, q _ ⟨_, rfl, h1, h2⟩⟩
      · cases e
  | _ => simp only [putD] at e; cases e
/-- x[k] = ..; x is looked at ahead of k, changed behind it -/
def gPut (i : Nat) (sk : SO) : SG := fun z ρ => match held ρ i with
  | none => .stuck
  | some _ => (sk ρ).bind fun o ρ' => match held ρ' i, o.get ρ' with
    | some d, some k => match putD d k z with
      | some d' => .ok () (put ρ' i d')
      | none => .stuck
    | _, _ => .stuck
theorem d_gPut {i : Nat} (hu : At X W) (ho : PE X o (tVar i)) (hi : DO (GK X ex) X W e sa)
    (ha : ∀ v, assign (.Subscript o e pos) X.env v = (do
      let ov ← holding [v] (eval o X.env)
      let iv ← holding [v, ov] (eval e X.env)
      standAt pos
      holding [v, ov, iv] (setItem ov iv v)
      release [v, ov, iv] []) := by intro _; rfl) : DG (GK X ex) X W [] (.Subscript o e pos) (gPut i sa) :=
  wkG (pg_sub ho hi (set_any hu.un) ha) fun v σ H Q ⟨z, ρ, F, Rv, io, rel, rp, q⟩ => by
    unfold gPut at q
    cases e1 : held ρ i with
    | none => rw [e1] at q; exact q.elim
    | some d0 =>
      rw [e1] at q
      obtain ⟨p, ob, e2, e3, e4, _⟩ := put_own (G := GK X ex) (d' := d0) rel e1
      refine ⟨_, e2, ρ, F, Rv, io, rel, ?_⟩
      cases e5 : sa ρ with
      | stuck => rw [e5] at q; exact q.elim
      | exc x ρ' => rw [e5] at q; exact q
      | ok o' ρ' =>
        rw [e5] at q
        simp only [R.bind_ok] at q
        intro iv H' F' le rel' ok
        cases e6 : held ρ' i with
        | none => rw [e6] at q; exact q.elim
        | some d =>
          cases e7 : o'.get ρ' with
          | none => rw [e6, e7] at q; exact q.elim
          | some k =>
            rw [e6, e7] at q
            simp only at q
            cases e8 : putD d k z with
            | none => rw [e8] at q; exact q.elim
            | some d' =>
              rw [e8] at q
              obtain ⟨p', ob', e9, e10, e11, e12⟩ := put_own (G := GK X ex) (d' := d') rel' e6
              rw [e2] at e9
              cases e9
              exact putD_set (G := GK X ex) rel'.fH e10 e11 (rel'.view (G := GK X ex) ok e7) (rp.mono le) e8 fun ob2 h2 => q σ _ F' le (e12 ob2 h2) ⟨rfl, fun _ _ => rfl⟩
def heldL (ρ : Env) (i : Nat) : Option (List D) := match held ρ i with
  | some (.lst ds) => some ds
  | _ => none
theorem heldL_some {ρ : Env} {i : Nat} {ds : List D} (h : heldL ρ i = some ds) : held ρ i = some (.lst ds) := by
  unfold heldL at h
  split at h
  · rename_i e; cases h; exact e
  · cases h
/-- a method that changes a list: the result and the new content -/
def sMut (i : Nat) (f : List D → List D → Option (D × List D)) (s : SA) : SE := fun ρ => match heldL ρ i with
  | none => .stuck
  | some _ => (s ρ).bind fun es ρ' => match heldL ρ' i with
    | none => .stuck
    | some ds => match f ds es with
      | some r => .ok r.1 (put ρ' i (.lst r.2))
      | none => .stuck
/-- the rule r changes lists so -/
def LMut (G : Gx) (r : V → List V → Hp → VK → Prop) (f : List D → List D → Option (D × List D)) : Prop := ∀ F H p vs ds xs es z ds' (Q : VK), FLe F H → H p = some (.lst vs) → Rps G.K F vs ds → Rps G.K F xs es → f ds es = some (z, ds') →
  (∀ v vs', Rp G.K F v z → Rps G.K F vs' ds' → Q v (upd H p (.lst vs'))) → r (.ref p) xs H Q
theorem mut_core {i : Nat} {f : List D → List D → Option (D × List D)} {r : V → List V → Hp → VK → Prop} {σ : L2.St} {H : Hp} {Q : VK} (hf : LMut (GK X ex) r f)
    (h : tE (GK X ex) W (sMut i f sA) σ H Q) : tBM X.K "list" r (tVar i) (tA (GK X ex) W sA) σ H Q := by
  obtain ⟨ρ, F, Rv, io, rel, q⟩ := h
  unfold sMut at q
  cases e1 : heldL ρ i with
  | none => rw [e1] at q; exact q.elim
  | some ds0 =>
    rw [e1] at q
    obtain ⟨p, ob, e2, e3, e4, _⟩ := put_own (G := GK X ex) (d' := .lst ds0) rel (heldL_some e1)
    obtain ⟨vs0, rfl, r0⟩ := e4
    refine ⟨_, e2, .inl ⟨rfl, _, SqL.of e3⟩, ρ, F, Rv, io, rel, ?_⟩
    cases e5 : sA ρ with
    | stuck => rw [e5] at q; exact q.elim
    | exc x ρ' => rw [e5] at q; exact q
    | ok es ρ' =>
      rw [e5] at q
      simp only [R.bind_ok] at q
      intro xs H' F' le rel' rx
      cases e6 : heldL ρ' i with
      | none => rw [e6] at q; exact q.elim
      | some ds =>
        rw [e6] at q
        cases e8 : f ds es with
        | none => simp only [e8] at q
        | some z =>
          simp only [e8] at q
          obtain ⟨p', ob', e9, e10, e11, e12⟩ := put_own (G := GK X ex) (d' := .lst z.2) rel' (heldL_some e6)
          rw [e2] at e9
          cases e9
          obtain ⟨vs, rfl, r1⟩ := e11
          exact hf F' H' p vs ds xs es z.1 z.2 Q rel'.fH e10 r1 rx e8 fun v vs' rv rvs => q v _ F' le (e12 _ ⟨_, rfl, rvs⟩) rv
def mAppend (ds es : List D) : Option (D × List D) := match es with
  | [d] => if ds.length < sizeLine then some (.non, ds ++ [d]) else none
  | _ => none
theorem lmut_append {G : Gx} : LMut G rAppend mAppend := fun F H p vs ds xs es z ds' Q fh hp r rx e q => by
  unfold mAppend at e
  split at e
  · split at e
    · rename_i hz
      cases e
      cases rx with
      | cons a b => cases b; exact ⟨p, vs, _, rfl, rfl, hp, by rw [r.length]; exact hz, q _ _ .non (r.append (.cons a .nil))⟩
    · cases e
  · cases e
theorem d_mut {i : Nat} {name : Str} {apos cpos : Pos} {r : V → List V → Hp → VK → Prop} {f : List D → List D → Option (D × List D)} (slot : Slot "list" name id) (hty : typeOf (.builtin id) = pure (.type "method_descriptor")) (hm : MtR X id r) (hf : LMut (GK X ex) r f)
    (ho : PE X o (tVar i)) (ha : DA (GK X ex) X W (e :: es) sA) (hbase : attributeBase o name X.env (eval o X.env) = eval o X.env := by rfl)
    (hfew : ((backTo cpos (starEach (e :: es) X.env)).all (fun x => !x.1) && (backToKw cpos (keywordEach [] X.env)).all (fun x => x.1.isSome)
      && decide ((e :: es).length + ([] : List Keyword).length + (if ([] : List Keyword).isEmpty then 0 else 1) < 30)) = true := by rfl)
    (hline : (apos.endLine == cpos.line) = true := by rfl) (hs : starEach (e :: es) X.env = (false, eval e X.env) :: starEach es X.env := by rfl) (hplain : (backTo cpos (starEach es X.env)).any (·.1) = false := by rfl) :
    DE (GK X ex) X W (.Call (.Attribute o name apos) (e :: es) [] cpos) (sMut i f sA) :=
  wkE (pe_bm PySem.F.plainAttrs_list slot hty hm ho ha hbase hfew hline hs hplain) fun σ H Q h => mut_core hf h
structure Apart (F Rv H : Hp) : Prop where
  f : FLe F H
  r : FLe Rv H
  d : ∀ a o, F a = some o → Rv a = none
  nt : NoTb F
/-- a def that computes g on frozen data -/
def spP (G : Gx) (n : Nat) (g : List D → FR) : Sp := fun vs H Q E => ∃ ds F Rv, vs.length = n ∧ Apart F Rv H ∧ Rps G.K F vs ds ∧ match g ds with
  | .ok d _ => ∀ v H' F', FLe F F' → Apart F' Rv H' → Rp G.K F' v d → Q v H'
  | .exc x => ∀ cls dd H' F', FLe F F' → Apart F' Rv H' → XR G F' x cls dd H' → E cls dd H'
  | .stuck => False
/-- .. on a list or dict that it is lent first, and on frozen data -/
def spI (G : Gx) (n : Nat) (g : List D → FR) : Sp := fun vs H Q E => ∃ p ws d0 ds F Rv, vs = .ref p :: ws ∧ vs.length = n ∧ Apart F Rv H ∧ OwnAt G.K F Rv H p d0 ∧ Rps G.K F ws ds ∧ match g (d0 :: ds) with
  | .ok d [z] => ∀ v H' F', FLe F F' → Apart F' Rv H' → OwnAt G.K F' Rv H' p z → Rp G.K F' v d → Q v H'
  | .exc x => ∀ cls dd H' F', FLe F F' → Apart F' Rv H' → OwnAt G.K F' Rv H' p d0 → XR G F' x cls dd H' → E cls dd H'
  | _ => False
def endP (r : FR) (ρ : Env) : R D := match r with
  | .ok d _ => .ok d ρ
  | .exc x => .exc x ρ
  | .stuck => .stuck
def sCallP (n : Nat) (g : List D → FR) (s : SA) : SE := fun ρ => (s ρ).bind fun ds ρ' => if ds.length = n then endP (g ds) ρ' else .stuck
def endI (i : Nat) (r : FR) (ρ : Env) : R D := match r with
  | .ok d [z] => .ok d (put ρ i z)
  | .exc x => match held ρ i with
    | some d0 => .exc x (put ρ i d0)
    | none => .stuck
  | _ => .stuck
/-- the first argument is the variable at i, which it is lent -/
def sCallI (i n : Nat) (g : List D → FR) (s : SA) : SE := fun ρ => match held ρ i with
  | none => .stuck
  | some _ => (s ρ).bind fun ds ρ' => match held ρ' i with
    | none => .stuck
    | some d0 => if ds.length + 1 = n then endI i (g (d0 :: ds)) ρ' else .stuck
section
variable {K : PySem.W.Frag} {T : List (Addr × Str)} {io : Io T} {Rv : Hp} {ρ : Env} {F F' : Hp} {σ : L2.St} {H H' : Hp}
/-- all that is not frozen, but p -/
def restOf (F H : Hp) (p : Option Addr) : Hp := fun a => if F a = none ∧ p ≠ some a then H a else none
theorem restOf_le (p : Option Addr) : FLe (restOf F H p) H := fun a o e => by
  unfold restOf at e
  split at e
  · exact e
  · cases e
theorem restOf_apart (r : Rel K io Rv ρ F σ H) (p : Option Addr) : Apart F (restOf F H p) H := ⟨r.fH, restOf_le p, (fun a o e => by
  unfold restOf
  rw [if_neg (fun z => by rw [e] at z; cases z.1)]), r.nt⟩
theorem Rel.behind (r : Rel K io Rv ρ F σ H) (le : FLe F F') (ap : Apart F' (restOf F H none) H') : Rel K io Rv ρ F' σ H' := by
  have keep : ∀ {a o}, F a = none → H a = some o → H' a = some o ∧ F' a = none := fun {a o} n e => by
    have q : restOf F H none a = some o := by
      unfold restOf
      rw [if_pos ⟨n, by intro z; cases z⟩]
      exact e
    refine ⟨ap.r _ _ q, ?_⟩
    cases e' : F' a with
    | none => rfl
    | some u => have z := ap.d a u e'; rw [q] at z; cases z
  have nF : ∀ {a o}, Rv a = some o → F a = none := fun {a o} e => by
    cases e' : F a with
    | none => rfl
    | some u => have z := r.dj a u e'; rw [e] at z; cases z
  refine ⟨ap.f, fun a o e => (keep (nF e) (r.rH a o e)).1, fun a o e => ?_, r.len, fun i c v e1 e2 => ?_, r.inj, r.ios, r.ioc, fun t ht => let q := r.tab t ht; let ⟨ps, ep⟩ := q.tbl; q.mv (keep q.1 ep).2 q.2.1 (fun ps e => (keep q.1 e).1) le q.nR, ap.nt⟩
  · cases e' : Rv a with
    | none => rfl
    | some u => have z := (keep (nF e') (r.rH a u e')).2; rw [e] at z; cases z
  · have q := r.cell i c v e1 e2
    have own : ∀ {p d}, OwnAt K F Rv H p d → OwnAt K F' Rv H' p d := fun {p d} w => by
      obtain ⟨o, e, h⟩ := w.at_
      obtain ⟨k1, k2⟩ := keep w.nF e
      exact ⟨k2, w.nR, o, k1, h.mono le⟩
    cases c with
    | no => trivial
    | fro d => obtain ⟨x, e, q⟩ := q; exact ⟨x, e, q.mono le⟩
    | own d => obtain ⟨p, e, q⟩ := q; exact ⟨p, e, own q⟩
    | io d => obtain ⟨p, e, q⟩ := q; exact ⟨p, e, own q⟩
theorem Rel.behindI (r : Rel K io Rv ρ F σ H) {i : Nat} {c : Cell} {d0 z : D} {p : Addr} (hc : ρ[i]? = some c) (hh : c.held = some d0) (hp : σ[i]? = some (some (.ref p))) (le : FLe F F') (ap : Apart F' (restOf F H (some p)) H') (ow : OwnAt K F' (restOf F H (some p)) H' p z) :
    Rel K io Rv (ρ.set i (c.put z)) F' σ H' := by
  have keep : ∀ {a o}, a ≠ p → F a = none → H a = some o → H' a = some o ∧ F' a = none := fun {a o} ne n e => by
    have q : restOf F H (some p) a = some o := by
      unfold restOf
      rw [if_pos ⟨n, by intro z; cases z; exact ne rfl⟩]
      exact e
    refine ⟨ap.r _ _ q, ?_⟩
    cases e' : F' a with
    | none => rfl
    | some u => have z := ap.d a u e'; rw [q] at z; cases z
  obtain ⟨p', e1, w⟩ := r.heldAt hc hh
  rw [hp] at e1; cases e1
  have hil : i < ρ.length := (List.getElem?_eq_some_iff.mp hc).1
  have nF : ∀ {a o}, Rv a = some o → F a = none := fun {a o} e => by
    cases e' : F a with
    | none => rfl
    | some u => have z := r.dj a u e'; rw [e] at z; cases z
  have nP : ∀ {a o}, Rv a = some o → a ≠ p := fun {a o} e z => by subst z; rw [w.nR] at e; cases e
  have hp2 : (c.put z).held = some z := by cases c <;> first | rfl | cases hh
  refine ⟨ap.f, fun a o e => (keep (nP e) (nF e) (r.rH a o e)).1, fun a o e => ?_, by rw [List.length_set]; exact r.len, fun j cj v e1 e2 => ?_, fun j k cj ck dj dk q h1 h2 h3 h4 h5 h6 => ?_, fun ip hip => ?_, fun j d' e => ?_, fun t ht => let q := r.tab t ht; let ⟨ps, ep⟩ := q.tbl; q.mv (keep (own_ne w ep) q.1 ep).2 q.2.1 (fun ps e => (keep (own_ne w e) q.1 e).1) le q.nR, ap.nt⟩
  · cases e' : Rv a with
    | none => rfl
    | some u => have z := (keep (nP e') (nF e') (r.rH a u e')).2; rw [e] at z; cases z
  · by_cases hj : i = j
    · subst hj
      rw [List.getElem?_set_self hil] at e1
      cases e1
      rw [hp] at e2; cases e2
      have own : OwnAt K F' Rv H' p z := ⟨ow.nF, w.nR, ow.at_⟩
      cases c with
      | no => cases hh
      | fro _ => cases hh
      | own _ => exact ⟨p, rfl, own⟩
      | io _ => exact ⟨p, rfl, own⟩
    · rw [List.getElem?_set_ne hj] at e1
      have q := r.cell j cj v e1 e2
      have own : ∀ {p' dj}, cj.held = some dj → v = some (.ref p') → OwnAt K F Rv H p' dj → OwnAt K F' Rv H' p' dj := fun {p' dj} h3 h4 w' => by
        have ne : p' ≠ p := fun z => by
          subst z
          rw [h4] at e2
          exact hj (r.inj i j c cj d0 dj p' hc e1 hh h3 hp e2)
        obtain ⟨o, e, h⟩ := w'.at_
        obtain ⟨k1, k2⟩ := keep ne w'.nF e
        exact ⟨k2, w'.nR, o, k1, h.mono le⟩
      cases cj with
      | no => trivial
      | fro d => obtain ⟨x, e, q⟩ := q; exact ⟨x, e, q.mono le⟩
      | own dj => obtain ⟨p', e, q⟩ := q; exact ⟨p', e, own rfl e q⟩
      | io dj => obtain ⟨p', e, q⟩ := q; exact ⟨p', e, own rfl e q⟩
  · have old : ∀ {j : Nat} {cj : Cell} {dj : D}, (ρ.set i (c.put z))[j]? = some cj → cj.held = some dj → ∃ cj' dj', ρ[j]? = some cj' ∧ cj'.held = some dj' := fun {j cj dj} e1 e2 => by
      by_cases hj : i = j
      · subst hj; exact ⟨c, d0, hc, hh⟩
      · rw [List.getElem?_set_ne hj] at e1; exact ⟨cj, dj, e1, e2⟩
    obtain ⟨_, _, g1, g2⟩ := old h1 h3
    obtain ⟨_, _, g3, g4⟩ := old h2 h4
    exact r.inj j k _ _ _ _ q g1 g3 g2 g4 h5 h6
  · obtain ⟨⟨d', e1⟩, e2⟩ := r.ios ip hip
    refine ⟨?_, e2⟩
    by_cases hj : i = ip.1
    · subst hj
      rw [hc] at e1; cases e1
      exact ⟨z, by rw [List.getElem?_set_self hil]; rfl⟩
    · exact ⟨d', by rw [List.getElem?_set_ne hj]; exact e1⟩
  · by_cases hj : i = j
    · subst hj
      rw [List.getElem?_set_self hil] at e
      cases c with
      | no => cases hh
      | fro _ => cases hh
      | own _ => cases e
      | io d'' => exact r.ioc i d'' hc
    · rw [List.getElem?_set_ne hj] at e; exact r.ioc j d' e
end
/-- a def that may be called by its name -/
structure Cal (P : Program) (w : World) (K : PySem.W.Frag) (mg : Str → Option Value) (base : Heap) (x : Str) (k : Nat) (sp : Sp) : Prop where
  there : ∃ f fd ps, FnOk P w K mg base (L2N.CX P w) k f fd ps sp ∧ mg x = some (.ref f) ∧ PySem.W.keepIn K (.ref f) = true ∧ Binds K fd ps []
/-- a def of the text as it stands -/
structure Fn (K : PySem.W.Frag) (mg : Str → Option Value) (x : Str) (st : Stmt) (ps : List Str) : Prop where
  there : ∃ f fd, Fun K x x st f fd ∧ mg x = some (.ref f) ∧ Binds K fd ps []
theorem Cal.mono {P : Program} {w : World} {K : PySem.W.Frag} {mg : Str → Option Value} {base : Heap} {x : Str} {j k : Nat} {sp : Sp} (C : Cal P w K mg base x j sp) (h : j ≤ k) : Cal P w K mg base x k sp := by
  obtain ⟨f, fd, ps, F, r⟩ := C.there
  exact ⟨f, fd, ps, F.mono h, r⟩
variable {f : Addr} {fd : FuncData} {ps : List Str} {k n : Nat} {g : List D → FR}
theorem d_callP (hu : At X W) (C : Cal X.prog X.w X.K X.mg X.base x k (spP (GK X ex) n g)) (hr : Room k X.A) (hg : Gl X x)
    (ha : DA (GK X ex) X W (e :: es) sA) (hdb : (x == ("__debug__" : Str)) = false := by decide) (he : starEach (e :: es) X.env = (false, eval e X.env) :: starEach es X.env := by rfl) (hpl : (backTo pos (starEach es X.env)).any (·.1) = false := by rfl) :
    DE (GK X ex) X W (.Call (.Name x p) (e :: es) [] pos) (sCallP n g sA) :=
  let ⟨f, fd, ps, F, hm, hk, hb⟩ := C.there
  wkE (pe_callS (E := WE W) F hr hg hm hk hb (fun σ => L2N.passAt hu.tk σ) ha hdb he hpl) fun σ H Q ⟨ρ, F, Rv, io, rel, q⟩ => by
    refine ⟨ρ, F, Rv, io, rel, ?_⟩
    unfold sCallP at q
    cases e : sA ρ with
    | stuck => rw [e] at q; exact q.elim
    | exc x ρ' => rw [e] at q; exact q
    | ok ds ρ' =>
      rw [e, R.bind_ok] at q
      intro vs H1 F1 le rel1 r
      by_cases hn : ds.length = n
      · rw [if_pos hn] at q
        refine ⟨ds, F1, restOf F1 H1 none, r.length.trans hn, restOf_apart rel1 none, r, ?_⟩
        cases e2 : g ds with
        | stuck => rw [e2] at q; exact q.elim
        | ok d o => rw [e2] at q; exact fun v H' F' le2 ap rp => q v H' F' (le.trans le2) (rel1.behind le2 ap) rp
        | exc x => rw [e2] at q; exact fun cls dd H' F' le2 ap xr => q cls dd σ H' F' (le.trans le2) (rel1.behind le2 ap) xr
      · rw [if_neg hn] at q; exact q.elim
theorem d_callI {i : Nat} (hu : At X W) (C : Cal X.prog X.w X.K X.mg X.base x k (spI (GK X ex) n g)) (hr : Room k X.A) (hg : Gl X x)
    (ho : PE X e (tVar i)) (ha : DA (GK X ex) X W es sA) (hdb : (x == ("__debug__" : Str)) = false := by decide) (he : starEach (e :: es) X.env = (false, eval e X.env) :: starEach es X.env := by rfl) (hpl : (backTo pos (starEach es X.env)).any (·.1) = false := by rfl) :
    DE (GK X ex) X W (.Call (.Name x p) (e :: es) [] pos) (sCallI i n g sA) :=
  let ⟨f, fd, ps, F, hm, hk, hb⟩ := C.there
  wkE (pe_callS (E := WE W) F hr hg hm hk hb (fun σ => L2N.passAt hu.tk σ) (pa_cons ho ha he) hdb he hpl) fun σ H Q ⟨ρ, F, Rv, io, rel, q⟩ => by
    unfold sCallI at q
    cases e0 : held ρ i with
    | none => rw [e0] at q; exact q.elim
    | some d00 =>
      rw [e0] at q
      obtain ⟨p0, _, e1, _⟩ := put_own (G := GK X ex) (d' := d00) rel e0
      refine ⟨_, e1, ρ, F, Rv, io, rel, ?_⟩
      cases e : sA ρ with
      | stuck => rw [e] at q; exact q.elim
      | exc x ρ' => rw [e] at q; exact q
      | ok ds ρ' =>
        rw [e] at q
        simp only [R.bind_ok] at q
        intro vs H1 F1 le rel1 r
        cases e2 : held ρ' i with
        | none => rw [e2] at q; exact q.elim
        | some d0 =>
          rw [e2] at q
          by_cases hn : ds.length + 1 = n
          · simp only [if_pos hn] at q
            obtain ⟨c, hc, hh⟩ : ∃ c, ρ'[i]? = some c ∧ c.held = some d0 := by
              unfold held at e2
              cases e3 : ρ'[i]? with
              | none => rw [e3] at e2; cases e2
              | some c => rw [e3] at e2; exact ⟨c, rfl, e2⟩
            obtain ⟨p', e4, w⟩ := rel1.heldAt hc hh
            rw [e1] at e4
            cases e4
            have nR : restOf F1 H1 (some p0) p0 = none := by unfold restOf; rw [if_neg (fun z => z.2 rfl)]
            refine ⟨p0, vs, d0, ds, F1, restOf F1 H1 (some p0), rfl, by rw [List.length_cons, r.length]; exact hn, restOf_apart rel1 _, ⟨w.nF, nR, w.at_⟩, r, ?_⟩
            cases e5 : g (d0 :: ds) with
            | stuck => rw [e5] at q; exact q.elim
            | exc x =>
              rw [e5] at q
              simp only [endI, e2] at q
              refine fun cls dd H' F' le2 ap ow xr => ?_
              refine q cls dd σ H' F' (le.trans le2) ?_ xr
              have z1 := rel1.behindI hc hh e1 le2 ap ow
              unfold put
              rw [hc]
              exact z1
            | ok d o =>
              rw [e5] at q
              match o, q with
              | [], q => exact q.elim
              | [z], q =>
                refine fun v H' F' le2 ap ow rp => q v H' F' (le.trans le2) ?_ rp
                have z1 := rel1.behindI hc hh e1 le2 ap ow
                unfold put
                rw [hc]
                exact z1
              | _ :: _ :: _, q => exact q.elim
          · simp only [if_neg hn] at q
/-- a def by its body, whatever is asked of exceptions -/
theorem okN {P : Program} {w : World} {K : PySem.W.Frag} {mg : Str → Option Value} {base : Heap} {CX : CXT} {x qual : Str} {st : Stmt} {f : Addr} {fd : FuncData} {N ps : List Str} {k : Nat} {sp : Sp} (F : Fun K x qual st f fd)
    (S : FnScope N ps (defScope st)) (len : ∀ vs H Q E, sp vs H Q E → vs.length = ps.length)
    (body : ∀ (cd : Value) (A : Around) (out : List PySem.Env) (s : Shared) (H : Hp) (vs : List V) (Q : VK) (E : XK), Room k (A.deeper (envOfC qual (defScope st) s.heap.objs.size f cd)) → sp vs H Q E →
      ∃ t, PSs (cxOf CX P w K mg base N qual (defScope st) f cd A out s H E) (defBody st) t ∧ t { nx := fun _ H' => Q .non H', rt := Q } (L2.start N vs) H) : FnOk P w K mg base CX (k + 1) f fd ps sp := by
  obtain ⟨_, _, _, _, _, _, cd, _, _, e, l, c⟩ := F.ex; subst e
  exact fn_of l c S len (body cd)
def runP (m n : Nat) (body : SS) : List D → FR := fun ds => match body (ds.map Cell.fro ++ List.replicate (m - n) Cell.no) with
  | .ok (.rt d) _ => .ok d []
  | .ok .nx _ => .ok .non []
  | .exc x _ => .exc x
  | _ => .stuck
def lastIo (ρ : Env) : List D := match (ρ[0]? : Option Cell) with
  | some (.io d) => [d]
  | _ => []
open Classical in
/-- .. an error leaves what is lent as it was -/
noncomputable def runI (m n : Nat) (body : SS) : List D → FR := fun ds => match ds with
  | [] => .stuck
  | d0 :: ds => match body (Cell.io d0 :: ds.map Cell.fro ++ List.replicate (m - n) Cell.no) with
    | .ok (.rt d) ρ => .ok d (lastIo ρ)
    | .ok .nx ρ => .ok .non (lastIo ρ)
    | .exc x ρ => if lastIo ρ = [d0] then .exc x else .stuck
    | _ => .stuck
section
variable {P : Program} {w : World} {K : PySem.W.Frag} {mg : Str → Option Value} {base : Heap}
abbrev wE (E : XK) : WX := fun cls d _ H => E cls d H
theorem at_def [TW w] {N ps : List Str} {qual : Str} {st : Stmt} {f : Addr} {cdv : Value} {A : Around} {outer : List PySem.Env} {s : Shared} {H : Hp} {E : XK} {k : Nat} (S : FnScope N ps (defScope st)) (hr : Room k (A.deeper (envOfC qual (defScope st) s.heap.objs.size f cdv))) :
    At (cxOf (L2N.CX P w) P w K mg base N qual (defScope st) f cdv A outer s H E) (wE E) := ⟨rfl, S.nd, hr.units, L2N.takes_of rfl rfl rfl rfl, TW.eq (w := w)⟩
theorem cells_start {F : Hp} : ∀ {vs : List V} {ds : List D}, Rps K F vs ds → ∀ {m n : Nat} {Rv H : Hp} (i : Nat) (c : Cell) (v : Option V), (ds.map Cell.fro ++ List.replicate m Cell.no)[i]? = some c → (vs.map some ++ List.replicate m none)[i]? = some v → CellOk K F Rv H v c
  | _, _, .nil, m, n, Rv, H, i, c, v, e1, e2 => by
    simp only [List.map_nil, List.nil_append] at e1
    rw [List.getElem?_replicate] at e1
    split at e1
    · cases e1; trivial
    · cases e1
  | _, _, .cons a b, m, n, Rv, H, 0, c, v, e1, e2 => by
    simp at e1 e2
    subst e1 e2
    exact ⟨_, rfl, a⟩
  | _, _, .cons a b, m, n, Rv, H, i + 1, c, v, e1, e2 => cells_start b (n := n) i c v (by simpa using e1) (by simpa using e2)
theorem fro_held {ds : List D} {m i : Nat} {c : Cell} (e : (ds.map Cell.fro ++ List.replicate m Cell.no)[i]? = some c) : c.held = none := by
  rw [List.getElem?_append] at e
  split at e
  · rw [List.getElem?_map] at e
    cases e2 : ds[i]? with
    | none => rw [e2] at e; cases e
    | some d => rw [e2] at e; cases e; rfl
  · rw [List.getElem?_replicate] at e
    split at e
    · cases e; rfl
    · cases e
theorem rel_start {F Rv H : Hp} {vs : List V} {ds : List D} {m : Nat} (ap : Apart F Rv H) (r : Rps K F vs ds) : Rel K ({} : Io []) Rv (ds.map Cell.fro ++ List.replicate m Cell.no) F (vs.map some ++ List.replicate m none) H := by
  refine ⟨ap.f, ap.r, ap.d, by simp [r.length], fun i c v e1 e2 => cells_start r (n := 0) i c v e1 e2, fun i j ci cj di dj p e1 e2 h1 h2 _ _ => ?_, fun ip hip => (nomatch hip), fun i d e => ?_, (fun t ht => (nomatch ht)), ap.nt⟩
  · rw [fro_held e1] at h1; cases h1
  · have z := fro_held e; cases z
theorem rel_startI {F Rv H : Hp} {p : Addr} {d0 : D} {vs : List V} {ds : List D} {m : Nat} (ap : Apart F Rv H) (ow : OwnAt K F Rv H p d0) (r : Rps K F vs ds) :
    Rel K ({ l := [(0, p)] } : Io []) Rv (Cell.io d0 :: (ds.map Cell.fro ++ List.replicate m Cell.no)) F (some (.ref p) :: (vs.map some ++ List.replicate m none)) H := by
  have r0 := rel_start (m := m) ap r
  refine ⟨ap.f, ap.r, ap.d, by simp [r.length], fun i c v e1 e2 => ?_, fun i j ci cj di dj q e1 e2 h1 h2 _ _ => ?_, fun ip hip => ?_, fun i d e => ?_, (fun t ht => (nomatch ht)), ap.nt⟩
  · cases i with
    | zero => simp at e1 e2; subst e1 e2; exact ⟨p, rfl, ow⟩
    | succ i => exact r0.cell i c v (by simpa using e1) (by simpa using e2)
  · have z : ∀ {i : Nat} {c : Cell} {d : D}, (Cell.io d0 :: (ds.map Cell.fro ++ List.replicate m Cell.no))[i]? = some c → c.held = some d → i = 0 := fun {i c d} e h => by
      cases i with
      | zero => rfl
      | succ i => rw [fro_held (by simpa using e)] at h; cases h
    rw [z e1 h1, z e2 h2]
  · obtain rfl : ip = (0, p) := List.mem_singleton.mp hip
    exact ⟨⟨d0, rfl⟩, rfl⟩
  · cases i with
    | zero => exact ⟨p, List.mem_singleton.mpr rfl⟩
    | succ i => have z := fro_held (c := .io d) (by simpa using e); cases z
theorem d_defP {x qual : Str} {st : Stmt} {f : Addr} {fd : FuncData} {N ps : List Str} {k : Nat} {body : SS} (ea : String → Addr) (F : Fun K x qual st f fd) (S : FnScope N ps (defScope st))
    (h : ∀ (cdv : Value) (A : Around) (outer : List PySem.Env) (s : Shared) (H : Hp) (E : XK), Room k (A.deeper (envOfC qual (defScope st) s.heap.objs.size f cdv)) →
      DSs ⟨K, ⟨ea, []⟩⟩ (cxOf (L2N.CX P w) P w K mg base N qual (defScope st) f cdv A outer s H E) (wE E) (defBody st) body) : FnOk P w K mg base (L2N.CX P w) (k + 1) f fd ps (spP ⟨K, ⟨ea, []⟩⟩ ps.length (runP N.length ps.length body)) := by
  refine okN F S (fun vs H Q E ⟨_, _, _, hl, _⟩ => hl) fun cdv A outer s H vs Q E hr ⟨ds, F0, Rv, hl, ap, r, q⟩ => ⟨_, h cdv A outer s H E hr, ?_⟩
  have e0 : L2.start N vs = vs.map some ++ List.replicate (N.length - ps.length) none := by unfold L2.start; rw [hl]
  rw [e0]
  refine ⟨_, F0, Rv, {}, rel_start ap r, ?_⟩
  unfold runP at q
  cases e : body (ds.map Cell.fro ++ List.replicate (N.length - ps.length) Cell.no) with
  | stuck => rw [e] at q; exact q.elim
  | exc x ρ' => rw [e] at q; exact fun cls dd σ' H' F' le rel xr => q cls dd H' F' le ⟨rel.fH, rel.rH, rel.dj, rel.nt⟩ xr
  | ok fl ρ' =>
    rw [e] at q
    cases fl with
    | nx => exact fun σ' H' F' le rel => q _ H' F' le ⟨rel.fH, rel.rH, rel.dj, rel.nt⟩ .non
    | bk => exact q.elim
    | ct => exact q.elim
    | rt d => exact fun v σ' H' F' le rel rp => q v H' F' le ⟨rel.fH, rel.rH, rel.dj, rel.nt⟩ rp
open Classical in
theorem d_defI {x qual : Str} {st : Stmt} {f : Addr} {fd : FuncData} {N ps : List Str} {k : Nat} {body : SS} (ea : String → Addr) (F : Fun K x qual st f fd) (S : FnScope N ps (defScope st)) (h0 : 0 < ps.length)
    (h : ∀ (cdv : Value) (A : Around) (outer : List PySem.Env) (s : Shared) (H : Hp) (E : XK), Room k (A.deeper (envOfC qual (defScope st) s.heap.objs.size f cdv)) →
      DSs ⟨K, ⟨ea, []⟩⟩ (cxOf (L2N.CX P w) P w K mg base N qual (defScope st) f cdv A outer s H E) (wE E) (defBody st) body) : FnOk P w K mg base (L2N.CX P w) (k + 1) f fd ps (spI ⟨K, ⟨ea, []⟩⟩ ps.length (runI N.length ps.length body)) := by
  refine okN F S (fun vs H Q E ⟨_, _, _, _, _, _, _, hl, _⟩ => hl) fun cdv A outer s H vs Q E hr ⟨p, ws, d0, ds, F0, Rv, hv, hl, ap, ow, r, q⟩ => ⟨_, h cdv A outer s H E hr, ?_⟩
  have e0 : L2.start N vs = some (.ref p) :: (ws.map some ++ List.replicate (N.length - ps.length) none) := by unfold L2.start; rw [hl, hv]; rfl
  rw [e0]
  refine ⟨_, F0, Rv, { l := [(0, p)] }, rel_startI ap ow r, ?_⟩
  unfold runI at q
  have fin : ∀ {ρ' : Env} {σ' : L2.St} {H' F' : Hp} {z : D}, Rel K ({ l := [(0, p)] } : Io []) Rv ρ' F' σ' H' → lastIo ρ' = [z] → OwnAt K F' Rv H' p z := fun {ρ' σ' H' F' z} rel e => by
    obtain ⟨⟨d, e1⟩, e2⟩ := rel.ios (0, p) (List.mem_singleton.mpr rfl)
    unfold lastIo at e
    rw [e1] at e
    cases e
    obtain ⟨p', e3, w⟩ := rel.heldAt e1 rfl
    rw [e2] at e3
    cases e3
    exact w
  have fin2 : ∀ {ρ' : Env} {σ' : L2.St} {H' F' : Hp}, Rel K ({ l := [(0, p)] } : Io []) Rv ρ' F' σ' H' → ∃ z, lastIo ρ' = [z] := fun {ρ' σ' H' F'} rel => by
    obtain ⟨⟨d, e1⟩, e2⟩ := rel.ios (0, p) (List.mem_singleton.mpr rfl)
    exact ⟨d, by unfold lastIo; rw [e1]⟩
  have q : (match (match body (Cell.io d0 :: (ds.map Cell.fro ++ List.replicate (N.length - ps.length) Cell.no)) with
    | .ok (.rt d) ρ => FR.ok d (lastIo ρ)
    | .ok .nx ρ => .ok .non (lastIo ρ)
    | .exc x ρ => if lastIo ρ = [d0] then .exc x else .stuck
    | _ => .stuck) with
    | .ok d [z] => ∀ v H' F', FLe F0 F' → Apart F' Rv H' → OwnAt K F' Rv H' p z → Rp K F' v d → Q v H'
    | .exc x => ∀ cls dd H' F', FLe F0 F' → Apart F' Rv H' → OwnAt K F' Rv H' p d0 → XR ⟨K, ⟨ea, []⟩⟩ F' x cls dd H' → E cls dd H'
    | _ => False) := q
  cases e : body (Cell.io d0 :: (ds.map Cell.fro ++ List.replicate (N.length - ps.length) Cell.no)) with
  | stuck => rw [e] at q; exact q.elim
  | exc x ρ' =>
    rw [e] at q
    by_cases hl0 : lastIo ρ' = [d0]
    · simp only [if_pos hl0] at q
      intro cls dd σ' H' F' le rel xr
      exact q cls dd H' F' le ⟨rel.fH, rel.rH, rel.dj, rel.nt⟩ (fin rel hl0) xr
    · simp only [if_neg hl0] at q
  | ok fl ρ' =>
    rw [e] at q
    cases fl with
    | nx =>
      intro σ' H' F' le rel
      obtain ⟨z, hz⟩ := fin2 rel
      simp only [hz] at q
      exact q _ H' F' le ⟨rel.fH, rel.rH, rel.dj, rel.nt⟩ (fin rel hz) .non
    | bk => exact q.elim
    | ct => exact q.elim
    | rt d =>
      intro v σ' H' F' le rel rp
      obtain ⟨z, hz⟩ := fin2 rel
      simp only [hz] at q
      exact q v H' F' le ⟨rel.fH, rel.rH, rel.dj, rel.nt⟩ (fin rel hz) rp
theorem takes0N {X : Cx} : L2N.Takes X (fun _ _ _ _ => False) := fun _ _ x => by
  obtain ⟨_, _, _, _, _, _, _, _, _, _, _, _, _, _, _, _, z⟩ := x
  exact z.elim
theorem at_blk {X : Cx} {W : WX} (hu : At X W) {s : Shared} {H : Hp} {scope : Scope} {cenv : PySem.Env} {fp : List Addr} : At (X.blk s H scope cenv fp) W0 := ⟨hu.calm, hu.nd, hu.un, takes0N, hu.wd⟩
theorem cal_P {x : Str} {st : Stmt} {N ps : List Str} {k : Nat} {body : SS} (ea : String → Addr) (F : Fn K mg x st ps) (S : FnScope N ps (defScope st))
    (h : ∀ (f : Addr) (cdv : Value) (A : Around) (outer : List PySem.Env) (s : Shared) (H : Hp) (E : XK), Room k (A.deeper (envOfC x (defScope st) s.heap.objs.size f cdv)) →
      DSs ⟨K, ⟨ea, []⟩⟩ (cxOf (L2N.CX P w) P w K mg base N x (defScope st) f cdv A outer s H E) (wE E) (defBody st) body) : Cal P w K mg base x (k + 1) (spP ⟨K, ⟨ea, []⟩⟩ ps.length (runP N.length ps.length body)) := by
  obtain ⟨f, fd, F, hm, hb⟩ := F.there
  exact ⟨f, fd, ps, d_defP ea F S (h f), hm, F.kp, hb⟩
theorem cal_I {x : Str} {st : Stmt} {N ps : List Str} {k : Nat} {body : SS} (ea : String → Addr) (F : Fn K mg x st ps) (S : FnScope N ps (defScope st)) (h0 : 0 < ps.length)
    (h : ∀ (f : Addr) (cdv : Value) (A : Around) (outer : List PySem.Env) (s : Shared) (H : Hp) (E : XK), Room k (A.deeper (envOfC x (defScope st) s.heap.objs.size f cdv)) →
      DSs ⟨K, ⟨ea, []⟩⟩ (cxOf (L2N.CX P w) P w K mg base N x (defScope st) f cdv A outer s H E) (wE E) (defBody st) body) : Cal P w K mg base x (k + 1) (spI ⟨K, ⟨ea, []⟩⟩ ps.length (runI N.length ps.length body)) := by
  obtain ⟨f, fd, F, hm, hb⟩ := F.there
  exact ⟨f, fd, ps, d_defI ea F S h0 (h f), hm, F.kp, hb⟩
end
/-- a module's constant that is no object -/
theorem d_glob {v : V} {d : D} (hg : Gl X x) (hm : ∃ u, X.mg x = some u ∧ RelV v u) (rp : ∀ F, Rp X.K F v d) (hd : (x == ("__debug__" : Str)) = false := by decide) : DE (GK X ex) X W (.Name x p) (sCst d) :=
  let ⟨_, h1, h2⟩ := hm
  d_cst (pe_glob hg h1 h2 hd) rp
/-- no test -/
def tT1 : ST := fun ρ => .ok true ρ
theorem pts_nilT : PTs X [] (tT (GK X ex) W tT1) := ⟨fun pins s σ H Q I ⟨ρ, F, Rv, io, rel, q⟩ => pts_nil.run pins s σ H Q I (q H F (FLe.refl F) rel)⟩
end
end Dt
set_option Elab.async false
set_option linter.all false
set_option maxRecDepth 100000
namespace Dt
open PySem
variable [HW]
/-- the first part is reckoned, then the rest -/
@[simp ↓] theorem ev_bind {α β : Type} (r : R α) (f : α → Env → R β) : r.bind f = match r with | .ok a ρ => f a ρ | .exc x ρ => .exc x ρ | .stuck => .stuck := rfl
@[simp] theorem ev_loc (i : Nat) (ρ : Env) : sLoc i ρ = match ρ[i]? with | some .no => .stuck | none => .stuck | _ => .ok (.loc i) ρ := rfl
@[simp] theorem ev_var (i : Nat) (ρ : Env) : sVar i ρ = match ρ[i]? with | some (.fro d) => .ok d ρ | some (.own d) => .ok d (ρ.set i (.fro d)) | _ => .stuck := rfl
@[simp] theorem ev_gSet (i : Nat) (d : D) (ρ : Env) : gSet i d ρ = match ρ[i]? with | some (.io _) => .stuck | none => .stuck | _ => .ok () (ρ.set i (.fro d)) := rfl
@[simp] theorem ev_gOwn (i : Nat) (d : D) (ρ : Env) : gOwn i d ρ = match ρ[i]? with | some (.io _) => .stuck | none => .stuck | _ => .ok () (ρ.set i (.own d)) := rfl
@[simp] theorem ev_held (ρ : Env) (i : Nat) : held ρ i = (ρ[i]?).bind Cell.held := rfl
@[simp] theorem ev_put (ρ : Env) (i : Nat) (d : D) : put ρ i d = match ρ[i]? with | some c => ρ.set i (c.put d) | none => ρ := rfl
@[simp] theorem ev_heldL (ρ : Env) (i : Nat) : heldL ρ i = match held ρ i with | some (.lst ds) => some ds | _ => none := rfl
@[simp] theorem ev_gPut (i : Nat) (sk : SO) (z : D) (ρ : Env) : gPut i sk z ρ = match held ρ i with
  | none => .stuck
  | some _ => (sk ρ).bind fun o ρ' => match held ρ' i, o.get ρ' with
    | some d, some k => match putD d k z with
      | some d' => .ok () (put ρ' i d')
      | none => .stuck
    | _, _ => .stuck := rfl
@[simp] theorem ev_mut (i : Nat) (f : List D → List D → Option (D × List D)) (s : SA) (ρ : Env) : sMut i f s ρ = match heldL ρ i with
  | none => .stuck
  | some _ => (s ρ).bind fun es ρ' => match heldL ρ' i with
    | none => .stuck
    | some ds => match f ds es with
      | some r => .ok r.1 (put ρ' i (.lst r.2))
      | none => .stuck := rfl
@[simp] theorem ev_callI (i n : Nat) (g : List D → FR) (s : SA) (ρ : Env) : sCallI i n g s ρ = match held ρ i with
  | none => .stuck
  | some _ => (s ρ).bind fun ds ρ' => match held ρ' i with
    | none => .stuck
    | some d0 => if ds.length + 1 = n then endI i (g (d0 :: ds)) ρ' else .stuck := rfl
@[simp] theorem ev_cst (d : D) (ρ : Env) : sCst d ρ = .ok d ρ := rfl
@[simp] theorem ev_val (s : SE) (ρ : Env) : sVal s ρ = (s ρ).bind fun d ρ' => .ok (.val d) ρ' := rfl
@[simp] theorem ev_nil (ρ : Env) : sNil ρ = .ok [] ρ := rfl
@[simp] theorem ev_cons (s : SE) (t : SA) (ρ : Env) : sCons s t ρ = (s ρ).bind fun d ρ1 => (t ρ1).bind fun ds ρ2 => .ok (d :: ds) ρ2 := rfl
@[simp] theorem ev_bnil (ρ : Env) : bNil ρ = .ok [] ρ := rfl
@[simp] theorem ev_bcons (s : SO) (t : SB) (ρ : Env) : bCons s t ρ = (s ρ).bind fun d ρ1 => (t ρ1).bind fun ds ρ2 => .ok (d :: ds) ρ2 := rfl
@[simp] theorem ev_b1 (s : SO) (ρ : Env) : b1 s ρ = (s ρ).bind fun d ρ1 => .ok [d] ρ1 := rfl
@[simp] theorem ev_b2 (s t : SO) (ρ : Env) : b2 s t ρ = (s ρ).bind fun d ρ1 => (t ρ1).bind fun e ρ2 => .ok [d, e] ρ2 := by
  show (s ρ).bind _ = (s ρ).bind _
  congr 1
  funext d ρ1
  show (bCons t bNil ρ1).bind _ = _
  rw [ev_bcons]
  cases t ρ1 <;> rfl
@[simp] theorem ev_ops (g : List D → Option D) (s : SB) (ρ : Env) : sOps g s ρ = (s ρ).bind fun os ρ' => ofO ((getAll ρ' os).bind g) ρ' := rfl
@[simp] theorem ev_ofS {α : Type} (a : α) (ρ : Env) : ofO (some a) ρ = .ok a ρ := rfl
@[simp] theorem ev_ofN {α : Type} (ρ : Env) : ofO (none : Option α) ρ = .stuck := rfl
@[simp] theorem ev_getV (d : D) (ρ : Env) : (Opd.val d).get ρ = some d := rfl
@[simp] theorem ev_getL (i : Nat) (ρ : Env) : (Opd.loc i).get ρ = (ρ[i]?).bind Cell.data := rfl
@[simp] theorem ev_all0 (ρ : Env) : getAll ρ [] = some [] := rfl
@[simp] theorem ev_all1 (o : Opd) (os : List Opd) (ρ : Env) : getAll ρ (o :: os) = (o.get ρ).bind fun d => (getAll ρ os).map fun ds => d :: ds := rfl
@[simp] theorem cd_fro (d : D) : (Cell.fro d).data = some d := rfl
@[simp] theorem cd_own (d : D) : (Cell.own d).data = some d := rfl
@[simp] theorem cd_io (d : D) : (Cell.io d).data = some d := rfl
@[simp] theorem cd_no : Cell.no.data = none := rfl
@[simp] theorem ch_fro (d : D) : (Cell.fro d).held = none := rfl
@[simp] theorem ch_own (d : D) : (Cell.own d).held = some d := rfl
@[simp] theorem ch_io (d : D) : (Cell.io d).held = some d := rfl
@[simp] theorem ch_no : Cell.no.held = none := rfl
@[simp] theorem cp_own (d e : D) : (Cell.own d).put e = .own e := rfl
@[simp] theorem cp_io (d e : D) : (Cell.io d).put e = .io e := rfl
@[simp] theorem ev_tst (s : SE) (ρ : Env) : sTst s ρ = (s ρ).bind fun d ρ' => match d with | .bl k => .ok k ρ' | _ => .stuck := rfl
@[simp] theorem ev_chain (g g' : List D → Option D) (sa sb sc : SO) (ρ : Env) : sChain g g' sa sb sc ρ = (sa ρ).bind fun x ρ1 => (sb ρ1).bind fun y ρ2 => (ofO ((getAll ρ2 [x, y]).bind g) ρ2).bind fun z ρ2 => match z with
  | .bl true => (sc ρ2).bind fun w ρ3 => ofO ((getAll ρ3 [y, w]).bind g') ρ3
  | .bl false => .ok (.bl false) ρ2
  | _ => .stuck := rfl
@[simp] theorem ev_tru (s : SO) (ρ : Env) : sTru s ρ = (s ρ).bind fun o ρ' => ofO ((o.get ρ').bind D.truth) ρ' := rfl
@[simp] theorem ev_and (s t : ST) (ρ : Env) : tAndS s t ρ = (s ρ).bind fun k ρ' => match k with | true => t ρ' | false => .ok false ρ' := rfl
@[simp] theorem ev_or (s t : ST) (ρ : Env) : tOrS s t ρ = (s ρ).bind fun k ρ' => match k with | true => .ok true ρ' | false => t ρ' := rfl
@[simp] theorem ev_tnot (s : ST) (ρ : Env) : tNotS s ρ = (s ρ).bind fun k ρ' => .ok (!k) ρ' := rfl
@[simp] theorem ev_sand (s t : SE) (ρ : Env) : sAnd s t ρ = (s ρ).bind fun d ρ' => match d.truth with | some true => t ρ' | some false => .ok d ρ' | none => .stuck := rfl
@[simp] theorem ev_sor (s t : SE) (ρ : Env) : sOr s t ρ = (s ρ).bind fun d ρ' => match d.truth with | some true => .ok d ρ' | some false => t ρ' | none => .stuck := rfl
@[simp] theorem ev_not (s : SO) (ρ : Env) : sNot s ρ = (sTru s ρ).bind fun k ρ' => .ok (.bl (!k)) ρ' := rfl
@[simp] theorem ev_if (t : ST) (a b : SE) (ρ : Env) : sIf t a b ρ = (t ρ).bind fun k ρ' => match k with | true => a ρ' | false => b ρ' := rfl
@[simp] theorem tr_bl (b : Bool) : (D.bl b).truth = some b := rfl
@[simp] theorem tr_non : D.non.truth = some false := rfl
@[simp] theorem tr_int (i : Int) : (D.int i).truth = some (i != 0) := rfl
@[simp] theorem ev_pn (ρ : Env) : sPn ρ = .ok none ρ := rfl
@[simp] theorem ev_pe (s : SE) (ρ : Env) : sPe s ρ = (s ρ).bind fun d ρ' => match d with | .int i => .ok (some i) ρ' | _ => .stuck := rfl
@[simp] theorem ev_slice (s : SO) (lo hi : SP') (ρ : Env) : sSlice s lo hi ρ = (s ρ).bind fun o ρ1 => (lo ρ1).bind fun l ρ2 => (hi ρ2).bind fun h ρ3 => ofO ((o.get ρ3).bind fun d => sliceD d l h) ρ3 := rfl
@[simp] theorem ev_rev (s : SO) (ρ : Env) : sRev s ρ = (s ρ).bind fun o ρ' => match o.get ρ' with | some (.lst xs) => .ok (.lst xs.reverse) ρ' | _ => .stuck := rfl
@[simp] theorem ev_tup (s : SA) (ρ : Env) : sTup s ρ = (s ρ).bind fun ds ρ' => if ds.length ≤ sizeLine then .ok (.tup ds) ρ' else .stuck := rfl
@[simp] theorem ev_lst (s : SA) (ρ : Env) : sLst s ρ = (s ρ).bind fun ds ρ' => if ds.length ≤ sizeLine then .ok (.lst ds) ρ' else .stuck := rfl
@[simp] theorem ev_isi (ts : List String) (s : SO) (ρ : Env) : sIsi ts s ρ = (s ρ).bind fun o ρ' => ofO ((o.get ρ').bind (isTo ts)) ρ' := rfl
@[simp] theorem isTo_non {ts : List String} : isTo ts .non = some (.bl (ts.any (isT .non))) := rfl
@[simp] theorem isTo_bl {ts : List String} {b : Bool} : isTo ts (.bl b) = some (.bl (ts.any (isT (.bl b)))) := rfl
@[simp] theorem isTo_int {ts : List String} {b : Int} : isTo ts (.int b) = some (.bl (ts.any (isT (.int b)))) := rfl
@[simp] theorem isTo_str {ts : List String} {b : Str} : isTo ts (.str b) = some (.bl (ts.any (isT (.str b)))) := rfl
@[simp] theorem isTo_tup {ts : List String} {b : List D} : isTo ts (.tup b) = some (.bl (ts.any (isT (.tup b)))) := rfl
@[simp] theorem isTo_lst {ts : List String} {b : List D} : isTo ts (.lst b) = some (.bl (ts.any (isT (.lst b)))) := rfl
@[simp] theorem isTo_scr {ts : List String} {b : List Int} : isTo ts (.scr b) = some (.bl (ts.any (isT (.scr b)))) := rfl
@[simp] theorem isTo_etup {ts : List String} : isTo ts .etup = some (.bl (ts.any (isT .etup))) := rfl
@[simp] theorem isTo_arg {ts : List String} {b : List D} : isTo ts (.arg b) = some (.bl (ts.any (isT (.arg b)))) := rfl
@[simp] theorem isTo_dct {ts : List String} {ks : List L2.Key} {ds : List D} : isTo ts (.dct ks ds) = some (.bl (ts.any (isT (.dct ks ds)))) := rfl
@[simp] theorem ev_iAny (s : SE) (ρ : Env) : iAny s ρ = (s ρ).bind fun d ρ' => ofO (itemsD d) ρ' := rfl
@[simp] theorem ev_iRng1 (s : SA) (ρ : Env) : iRng1' s ρ = (s ρ).bind fun ds ρ' => ofO (rng1D ds) ρ' := rfl
@[simp] theorem ev_iRng2 (s : SA) (ρ : Env) : iRng2' s ρ = (s ρ).bind fun ds ρ' => ofO (rng2D ds) ρ' := rfl
@[simp] theorem ev_asg (g : SG) (s : SE) (ρ : Env) : sAsg g s ρ = (s ρ).bind fun d ρ' => (g d ρ').bind fun _ ρ'' => .ok .nx ρ'' := rfl
@[simp] theorem ev_expr (s : SE) (ρ : Env) : sExpr s ρ = (s ρ).bind fun _ ρ' => .ok .nx ρ' := rfl
@[simp] theorem ev_ret (s : SE) (ρ : Env) : sRet s ρ = (s ρ).bind fun d ρ' => .ok (.rt d) ρ' := rfl
@[simp] theorem ev_nx (ρ : Env) : sNx ρ = .ok .nx ρ := rfl
@[simp] theorem ev_seq (a b : SS) (ρ : Env) : sSeq a b ρ = (a ρ).bind fun f ρ' => match f with | .nx => b ρ' | f => .ok f ρ' := rfl
@[simp] theorem ev_ifS (t : ST) (a b : SS) (ρ : Env) : sIfS t a b ρ = (t ρ).bind fun k ρ' => match k with | true => a ρ' | false => b ρ' := rfl
@[simp] theorem ev_tT1 (ρ : Env) : tT1 ρ = .ok true ρ := rfl
@[simp] theorem ev_gTup (n : Nat) (gs : SGs) (d : D) (ρ : Env) : gTup' n gs d ρ = match d with | .tup ds => if ds.length = n then gs ds ρ else .stuck | .lst ds => if ds.length = n then gs ds ρ else .stuck | .arg ds => if ds.length = n then gs ds ρ else .stuck | _ => .stuck := rfl
@[simp] theorem ev_gN0 (ρ : Env) : gN [] ρ = .ok () ρ := rfl
@[simp] theorem ev_gC (g : SG) (gs : SGs) (d : D) (ds : List D) (ρ : Env) : gC g gs (d :: ds) ρ = (g d ρ).bind fun _ ρ' => gs ds ρ' := rfl
@[simp] theorem ev_callP (n : Nat) (g : List D → FR) (s : SA) (ρ : Env) : sCallP n g s ρ = (s ρ).bind fun ds ρ' => if ds.length = n then endP (g ds) ρ' else .stuck := rfl
@[simp] theorem ev_endP (d : D) (o : List D) (ρ : Env) : endP (.ok d o) ρ = .ok d ρ := rfl
@[simp] theorem ev_endPx (x : Exn) (ρ : Env) : endP (.exc x) ρ = .exc x ρ := rfl
@[simp] theorem ev_endI (i : Nat) (d z : D) (ρ : Env) : endI i (.ok d [z]) ρ = .ok d (put ρ i z) := rfl
@[simp] theorem ev_endIx (i : Nat) (x : Exn) (ρ : Env) : endI i (.exc x) ρ = match held ρ i with | some d0 => .exc x (put ρ i d0) | none => .stuck := rfl
@[simp] theorem noX_ok {α : Type} (a : α) (ρ : Env) : noX (.ok a ρ) = .ok a ρ := rfl
@[simp] theorem blsOf_nil : blsOf [] = some [] := rfl
@[simp] theorem blsOf_cons (b : Bool) (ds : List D) : blsOf (.bl b :: ds) = (blsOf ds).map fun r => b :: r := rfl
theorem line_pos {n : Nat} (h : n ≤ 16777216) : n ≤ sizeLine := by
  rw [show sizeLine = 16777216 from by decide]
  exact h
theorem for_inv {I : Env → Prop} {g : SG} {s : SS} : ∀ {ds : List D} {ρ : Env}, (∀ d ∈ ds, ∀ ρ, I ρ → ∃ ρ1 ρ2 f, g d ρ = .ok () ρ1 ∧ s ρ1 = .ok f ρ2 ∧ (f = .nx ∨ f = .ct) ∧ I ρ2) → I ρ → ∃ ρ', forGo g s ds ρ = .ok .nx ρ' ∧ I ρ'
  | [], ρ, _, hi => ⟨ρ, rfl, hi⟩
  | d :: ds, ρ, h, hi => by
    obtain ⟨ρ1, ρ2, f, e1, e2, hf, i2⟩ := h d (List.mem_cons_self) ρ hi
    obtain ⟨ρ', e3, i3⟩ := for_inv (fun d hd => h d (List.mem_cons_of_mem _ hd)) i2
    refine ⟨ρ', ?_, i3⟩
    unfold forGo
    rw [e1, R.bind_ok, e2, R.bind_ok]
    rcases hf with rfl | rfl <;> exact e3
/-- a comprehension that computes f of each item that p keeps, in an environment that stays -/
theorem comp_map {vs : List Nat} {g : SG} {t : ST} {s : SE} {f : D → D} {p : D → Bool} {ρ : Env} : ∀ {ds : List D}, (∀ d ∈ ds, ∃ ρ1 ρ2, g d ρ = .ok () ρ1 ∧ t ρ1 = .ok (p d) ρ2 ∧ plainAt ρ2 vs = true ∧ wipeE ρ2 vs = ρ ∧ (p d = true → ∃ ρ3, s ρ2 = .ok (f d) ρ3 ∧ plainAt ρ3 vs = true ∧ wipeE ρ3 vs = ρ)) →
    compGo vs g t s ds ρ = .ok ((ds.filter p).map f) ρ
  | [], _ => rfl
  | d :: ds, h => by
    obtain ⟨ρ1, ρ2, e1, e2, h1, h2, h3⟩ := h d (List.mem_cons_self)
    have ih := comp_map (fun d hd => h d (List.mem_cons_of_mem _ hd))
    unfold compGo
    rw [e1, R.bind_ok, e2, R.bind_ok]
    cases hp : p d with
    | false =>
      show (if plainAt ρ2 vs = true then _ else _) = _
      rw [if_pos h1, h2, ih, List.filter_cons_of_neg (by simp [hp])]
    | true =>
      obtain ⟨ρ3, e3, h4, h5⟩ := h3 hp
      show (s ρ2).bind _ = _
      rw [e3, R.bind_ok, if_pos h4, h5, ih, R.bind_ok, List.filter_cons_of_pos (by simp [hp]), List.map_cons]
end Dt
set_option Elab.async false
set_option linter.all false
set_option maxRecDepth 100000
set_option maxHeartbeats 4000000
namespace Dt
open PySem PySem.Spec PyProof.Rows
variable [HW]
/-- one more text -/
def kindS (σ : List Str) (x : Str) : List Str := if x ∈ σ then σ else σ ++ [x]
/-- the unlike texts, in the order of their first places -/
def kinds (xs : List Str) : List Str := xs.foldl kindS []
theorem mem_kindS {σ : List Str} {x y : Str} : y ∈ kindS σ x ↔ y ∈ σ ∨ y = x := by
  unfold kindS
  split
  · rename_i h
    exact ⟨.inl, fun q => q.elim id fun e => by rw [e]; exact h⟩
  · rw [List.mem_append, List.mem_singleton]
theorem len_kindS (σ : List Str) (x : Str) : (kindS σ x).length = if x ∈ σ then σ.length else σ.length + 1 := by
  unfold kindS
  split <;> simp
section
variable {prog : Program} {w : World} {A : Around} {E : Value → Shared → Prop} {s : Shared}
abbrev bare (led : Bool) : Obj := { cls := .type "set", dict := none, data := .set #[] 0 (.fresh 0 0 led) }
end
end Dt
set_option Elab.async false
set_option linter.all false
set_option maxRecDepth 100000
set_option maxHeartbeats 4000000
namespace Dt
open PySem PySem.Spec PyProof.Rows L2
end Dt
set_option Elab.async false
set_option linter.all false
set_option maxRecDepth 100000
set_option maxHeartbeats 4000000
namespace Dt
open PySem PySem.Spec PyProof.Rows L2
variable [HW]
def dcompGo (vs : List Nat) (g : SG) (t : ST) (sk s : SE) : List D → List Key × List D → Env → R (List Key × List D)
  | [], acc, ρ => .ok acc ρ
  | d :: ds, acc, ρ => (g d ρ).bind fun _ ρ1 => (t ρ1).bind fun k ρ2 => match k with
    | true => (sk ρ2).bind fun kd ρk => (s ρk).bind fun z ρ3 => match keyOf kd with
      | none => .stuck
      | some k => if plainAt ρ3 vs = true then dcompGo vs g t sk s ds (dPut acc.1 acc.2 k z) (wipeE ρ3 vs) else .stuck
    | false => if plainAt ρ2 vs = true then dcompGo vs g t sk s ds acc (wipeE ρ2 vs) else .stuck
def sDComp (vs : List Nat) (it : SA) (g : SG) (t : ST) (sk s : SE) : SE := fun ρ => (it ρ).bind fun ds ρ1 =>
  if plainAt ρ1 vs = true ∧ ds.length ≤ sizeLine then (noX (dcompGo vs g t sk s ds ([], []) (wipeE ρ1 vs))).bind fun zs ρ2 => .ok (.dct zs.1 zs.2) (backE ρ1 ρ2 vs) else .stuck
section
variable {ex : Exx} {X : Cx} {W : WX} {tg : Expr} {pos : Pos}
theorem dcomp_core {G : Gx} {σ : L2.St} {H : Hp} {Q : VK} {it : SA} {g : SG} {t : ST} {sk s : SE} {js vs : List Nat} (hjs : js.all (fun j => vs.contains j) = true) (h : tF G W (sDComp vs it g t sk s) σ H Q) :
    tDc (tI G W it) (tG G W0 js g) (tT G W0 t) (tE G W0 sk) (tE G W0 s) vs σ H Q := by
    obtain ⟨ρ, F, Rv, io, rel, q⟩ := h
    refine ⟨ρ, F, Rv, io, rel, ?_⟩
    unfold sDComp at q
    cases e : it ρ with
    | stuck => rw [e] at q; exact q.elim
    | exc x ρ' => rw [e] at q; exact q
    | ok ds ρ1 =>
      rw [e, R.bind_ok] at q
      intro J H1 F1 le1 rel1 J1 Dl hD
      by_cases hp : plainAt ρ1 vs = true ∧ ds.length ≤ sizeLine
      case neg => rw [if_neg hp] at q; exact q.elim
      rw [if_pos hp] at q
      obtain ⟨hpl, hz⟩ := hp
      cases e2 : dcompGo vs g t sk s ds ([], []) (wipeE ρ1 vs) with
      | stuck => rw [e2] at q; exact q.elim
      | exc x ρ' => rw [e2] at q; exact q.elim
      | ok zs ρe =>
        rw [e2] at q
        have nR : Rv Dl = none := rel1.rH.noneOf hD
        refine ⟨fun i m H => m = ds.length - i ∧ i ≤ ds.length ∧ ∃ (ρi : Env) (Fi : Hp) (acc : List (Key × V)) (dn : List D), FLe F1 Fi ∧ Rel G.K io (upd Rv Dl (.dK acc)) ρi Fi (wipe σ vs) H ∧ acc.length ≤ i ∧ Rps G.K Fi (acc.map (·.2)) dn ∧
          dcompGo vs g t sk s (ds.drop i) (acc.map (·.1), dn) ρi = .ok zs ρe, ⟨ds.length, rfl.trans (Nat.sub_zero _).symm, Nat.zero_le _, wipeE ρ1 vs, F1, [], [], FLe.refl _, (rel1.wiped hpl).resAdd hD _, Nat.le_refl _, .nil, e2⟩, ?_⟩
        rintro i m H ⟨rfl, hi, ρi, Fi, acc, dn, lei, reli, hacc, racc, hgo⟩
        by_cases hlt : i < ds.length
        · obtain ⟨d, hd, hdr⟩ := drop_at hlt
          rw [hdr] at hgo
          unfold dcompGo at hgo
          refine .inr ⟨J1.go i Fi H lei reli.fH hlt, fun H' => ∃ (ρ2 : Env) (F2 : Hp) (acc2 : List (Key × V)) (dn2 : List D), FLe F1 F2 ∧ Rel G.K io (upd Rv Dl (.dK acc2)) ρ2 F2 (wipe σ vs) H' ∧ acc2.length ≤ i + 1 ∧ Rps G.K F2 (acc2.map (·.2)) dn2 ∧
              dcompGo vs g t sk s (ds.drop (i + 1)) (acc2.map (·.1), dn2) ρ2 = .ok zs ρe, fun H' z => ⟨ds.length - (i + 1), by omega, rfl, hlt, z⟩, fun xv H' y => ?_⟩
          obtain ⟨F2, nw, rp⟩ := J1.yld i Fi H H' xv d lei reli.fH hd y
          have rel2 := reli.after nw
          refine ⟨d, ρi, F2, _, io, rel2, rp, ?_⟩
          cases e3 : g d ρi with
          | stuck => rw [e3] at hgo; cases hgo
          | exc x ρ' => rw [e3] at hgo; cases hgo
          | ok u ρ3 =>
            rw [e3, R.bind_ok] at hgo
            intro σ3 H3 F3 le3 rel3 hj3
            have hjs' : ∀ j, j ∉ vs → σ3[j]? = (wipe σ vs)[j]? := fun j hj => hj3.2 j fun z => hj (by
              have w := List.all_eq_true.mp hjs j z
              simpa using w)
            have hl3 : σ3.length = σ.length := hj3.1.trans (wipe_length σ vs)
            have hw := wipe_same hl3 hjs'
            refine ⟨hw, ρ3, F3, _, io, rel3, ?_⟩
            cases e4 : t ρ3 with
            | stuck => rw [e4] at hgo; cases hgo
            | exc x ρ' => rw [e4] at hgo; cases hgo
            | ok k ρ4 =>
              rw [e4, R.bind_ok] at hgo
              intro H4 F4 le4 rel4
              cases k with
              | false =>
                refine iteF ?_
                have hgo : (if plainAt ρ4 vs = true then dcompGo vs g t sk s (ds.drop (i + 1)) (acc.map (·.1), dn) (wipeE ρ4 vs) else .stuck) = R.ok zs ρe := hgo
                by_cases hp4 : plainAt ρ4 vs = true
                · rw [if_pos hp4] at hgo
                  have le := (nw.f.trans le3).trans le4
                  refine ⟨wipeE ρ4 vs, F4, acc, dn, lei.trans le, ?_, Nat.le_succ_of_le hacc, racc.mono le, hgo⟩
                  have r := rel4.wiped hp4
                  rw [hw] at r
                  exact r
                · rw [if_neg hp4] at hgo; cases hgo
              | true =>
                refine iteT ⟨ρ4, F4, _, io, rel4, ?_⟩
                have hgo : ((sk ρ4).bind fun kd ρk => (s ρk).bind fun z ρ3 => match keyOf kd with | none => .stuck | some k => if plainAt ρ3 vs = true then dcompGo vs g t sk s (ds.drop (i + 1)) (dPut (acc.map (·.1)) dn k z) (wipeE ρ3 vs) else .stuck) = R.ok zs ρe := hgo
                cases ek : sk ρ4 with
                | stuck => rw [ek] at hgo; cases hgo
                | exc x ρ' => rw [ek] at hgo; cases hgo
                | ok kd ρk =>
                rw [ek, R.bind_ok] at hgo
                intro kv Hk Fk lek relk rpk
                refine ⟨ρk, Fk, _, io, relk, ?_⟩
                cases e5 : s ρk with
                | stuck => rw [e5] at hgo; cases hgo
                | exc x ρ' => rw [e5] at hgo; cases hgo
                | ok z ρ5 =>
                  rw [e5, R.bind_ok] at hgo
                  intro yv H5 F5 le5 rel5 rp5
                  cases e6 : keyOf kd with
                  | none => rw [e6] at hgo; cases hgo
                  | some k =>
                    rw [e6] at hgo
                    have hgo : (if plainAt ρ5 vs = true then dcompGo vs g t sk s (ds.drop (i + 1)) (dPut (acc.map (·.1)) dn k z) (wipeE ρ5 vs) else .stuck) = R.ok zs ρe := hgo
                    by_cases hp5 : plainAt ρ5 vs = true
                    · rw [if_pos hp5] at hgo
                      have le := (((nw.f.trans le3).trans le4).trans lek).trans le5
                      obtain ⟨k1, k2⟩ := dPut_put (k := k) rp5 (racc.mono le)
                      refine ⟨acc, k, keyOf_vw (H := Fk) (.inl rpk) e6, rel5.rH Dl _ upd_same, Nat.lt_of_le_of_lt hacc (Nat.lt_of_lt_of_le hlt hz), wipeE ρ5 vs, F5, putK acc k yv, (dPut (acc.map (·.1)) dn k z).2, lei.trans le, ?_, Nat.le_trans (length_putK acc k yv) (Nat.succ_le_succ hacc), k2, by rw [k1]; exact hgo⟩
                      have r := rel5.wiped hp5
                      rw [hw] at r
                      exact r.resPut
                    · rw [if_neg hp5] at hgo; cases hgo
        · have hi2 : i = ds.length := by omega
          subst hi2
          rw [List.drop_eq_nil_of_le (Nat.le_refl _)] at hgo
          unfold dcompGo at hgo
          cases hgo
          refine .inl ⟨J1.stop Fi H lei reli.fH, ?_⟩
          obtain ⟨relD, n1, n2, lo⟩ := reli.resDrop nR
          have relB := rel1.back (vs := vs) relD lei hpl
          refine q Dl H Fi (le1.trans lei) relB ⟨n1, nR, _, n2, acc, rfl, rfl, ?_⟩ fun i c d e1 e2 e3 => ?_
          · exact racc
          · have hlen : ρ1.length = ρe.length := by rw [rel1.len, relD.len, wipe_length]
            rw [(backE_get hlen vs).2] at e1
            by_cases hi : i ∈ vs
            · rw [if_pos hi] at e1
              rcases plain_at hpl hi e1 with z | ⟨_, z⟩ <;> (subst z; cases e2)
            · rw [if_neg hi] at e1
              exact lo i c d e1 e2 (by rw [wipe_get, if_neg hi]; exact e3)
theorem d_dcompF {kx vx iter : Expr} {ifs : List Expr} {scope : Scope} {own : List (Str × Nat)} {it : SA} {g : SG} {t : ST} {sk s : SE} {js : List Nat} (hu : At X W) (hi : DI (GK X ex) X W tg iter it) (ok : BlkOk X.N X.env.scope scope own)
    (hg : ∀ (s : Shared) (H : Hp) (C : Addr) (cl : List (Str × Addr)) (fp : List Addr), DG (GK X ex) (X.blk s H scope (compEnvC scope cl C X.env) fp) W0 js tg g)
    (ht : ∀ (s : Shared) (H : Hp) (C : Addr) (cl : List (Str × Addr)) (fp : List Addr), PTs (X.blk s H scope (compEnvC scope cl C X.env) fp) ifs (tT (GK X ex) W0 t))
    (hk : ∀ (s' : Shared) (H : Hp) (C : Addr) (cl : List (Str × Addr)) (fp : List Addr), DE (GK X ex) (X.blk s' H scope (compEnvC scope cl C X.env) fp) W0 kx sk)
    (he : ∀ (s' : Shared) (H : Hp) (C : Addr) (cl : List (Str × Addr)) (fp : List Addr), DE (GK X ex) (X.blk s' H scope (compEnvC scope cl C X.env) fp) W0 vx s) (hjs : js.all (fun j => (own.map (·.2)).contains j) = true) (hs : ∀ x, foldedSetIterable iter X.env x = pure x := by intro _; rfl) :
    DF (GK X ex) X W (.DictComp kx vx [⟨tg, iter, ifs, 0⟩] scope pos) (sDComp (own.map (·.2)) it g t sk s) :=
  wkE (pe_dc hu.calm hu.nd hi ok hg ht hk he hs) fun σ H Q h => dcomp_core hjs h
end
end Dt
set_option Elab.async false
set_option linter.all false
set_option maxRecDepth 100000
set_option maxHeartbeats 4000000
namespace Dt
open PySem PySem.Spec PyProof.Rows L2
variable [HW]
section
variable {prog : Program} {w : World} {K : Type} [DecidableEq K] {knd : KeyKind prog w K} {A : Around} {E : Value → Shared → Prop} {s : Shared} {r d : Addr} {kvs : List (K × Value)} {ep : Nat}
abbrev tupOf (as : List Addr) : Obj := { cls := .type "tuple", data := .seq (as.map Value.ref).toArray }
theorem new_tuple_items {Q : Value → Shared → Prop} (hh : A.handled = none) (view : s.heap.IsItemsView r d) (at_ : s.heap.DictAt knd d kvs ep) (room : kvs.length ≤ sizeLine)
    (fin : ∀ (h1 : Heap) (tk : Nat) (as : List Addr), (∀ b o, s.heap.get? b = some o → h1.get? b = some o) → as.length = kvs.length → PySem.W.KdxG knd kvs s.heap.objs.size h1 as → Q (.ref h1.objs.size) { s with heap := h1.push (tupOf as), toks := tk }) :
    codeAny (model prog w) A (.call (.builtin "tuple.__new__") ⟨[.type "tuple", .ref r], []⟩) (wants Q E) s := by
  refine codeAny_of_tree (show wpAny _ A.in1 (do checkBuiltinCall "tuple.__new__" ⟨[.type "tuple", .ref r], []⟩; again (.builtin "tuple.__new__" ⟨[.type "tuple", .ref r], []⟩)) _ _ s from wpAny_bind (wpAny_of_eq (F.newCall_tuple_1 _) (wpAny_pure ⟨plainId_quiet F.plain_tuple_new _, codeAny_builtin F.entry_tuple_new ?_⟩)))
  rw [Around.under_plainId F.plain_tuple_new]
  have k1 := sub_tuple_self; have k2 := init_tuple_lookup; have k3 := madeHere_tuple
  have ty : s.TypeIs (.ref r) "dict_items" := view.typeIs
  have q1 : A.in1.handled = none := hh
  wp_walk using wpAny_typeOf ty, PySem.W.kdx_collect (A := A.in1) q1 view at_ room
  intro h1 tk as old len g
  refine (show wpAny _ _ (Builtin.Tuple.tupleExact (as.map Value.ref).toArray >>= fun v => ret v) _ _ _ from ?_)
  unfold Builtin.Tuple.tupleExact
  exact wpAny_bind (wpAny_newObj_type (wpAny_pure (fin h1 tk as old len g)) (by show (as.map Value.ref).toArray.size ≤ sizeLine; rw [List.size_toArray, List.length_map, len]; exact room))
theorem call_tuple_items {Q : Value → Shared → Prop} (hh : A.handled = none) (view : s.heap.IsItemsView r d) (at_ : s.heap.DictAt knd d kvs ep) (room : kvs.length ≤ sizeLine)
    (fin : ∀ (h1 : Heap) (tk : Nat) (as : List Addr), (∀ b o, s.heap.get? b = some o → h1.get? b = some o) → as.length = kvs.length → PySem.W.KdxG knd kvs s.heap.objs.size h1 as → Q (.ref h1.objs.size) { s with heap := h1.push (tupOf as), toks := tk }) :
    wpAny (model prog w) A (call (.type "tuple") [.ref r]) Q E s :=
  callType_codes (Q₁ := fun v t => t.TypeIs v "tuple" ∧ Q v t) F.called_tuple (F.typeCall_tuple_1 _) F.entry_object_init
    (new_tuple_items (A := A.in1) hh view at_ room fun h1 tk as old len g => ⟨⟨_, Heap.get?_push_size _ rfl, rfl⟩, fin h1 tk as old len g⟩) fun v t h => ⟨h.1, F.args_object_init_2 v _, object_init_meets F.called_tuple.init.lookup F.called_tuple.made (by decide) prog w A.in1 _ t ⟨h.1, rfl, h.2⟩⟩
end
section
variable {X : Cx} {pins : List (Addr × Obj)} {σ : L2.St} {H : Hp} {s : Shared}
/-- the objects of the heap h1 at the addresses, as pairs -/
def putZ (h1 : Heap) : Hp → List Addr → List (Key × V) → Hp
  | H, a :: as, p :: kvs => putZ h1 (upd H a (.frz ((h1.get? a).getD (tupO [])) (.tup [kV p.1, p.2]))) as kvs
  | H, _, _ => H
theorem putZ_off {h1 : Heap} {b : Addr} : ∀ (as : List Addr) (kvs : List (Key × V)) (H : Hp), b ∉ as → putZ h1 H as kvs b = H b
  | [], _, _, _ => rfl
  | _ :: _, [], _, _ => rfl
  | a :: as, p :: kvs, H, h => by
    unfold putZ
    rw [putZ_off as kvs _ (fun z => h (.tail _ z)), upd_ne (fun z => h (by rw [z]; exact .head _))]
theorem putZ_at {h1 : Heap} : ∀ (as : List Addr) (kvs : List (Key × V)) (H : Hp), as.length = kvs.length → as.Nodup → Paired (fun (t : Addr) (p : Key × V) => putZ h1 H as kvs t = some (.frz ((h1.get? t).getD (tupO [])) (.tup [kV p.1, p.2]))) as kvs
  | [], [], _, _, _ => .nil
  | [], _ :: _, _, h, _ => by cases h
  | _ :: _, [], _, h, _ => by cases h
  | a :: as, p :: kvs, H, h, hn => by
    obtain ⟨n1, n2⟩ := List.nodup_cons.mp hn
    exact .cons (by unfold putZ; rw [putZ_off as kvs _ n1, upd_same]) (putZ_at as kvs _ (Nat.succ.inj h) n2)
theorem pairs_laid {h1 : Heap} {tk : Nat} {kvs : List (Key × V)} {vs : List (Key × Value)} {as : List Addr} (I : Inv X pins σ H s) (kv : KV kvs vs) (old : ∀ b o, s.heap.get? b = some o → h1.get? b = some o) (len : as.length = vs.length)
    (g : PySem.W.KdxG (mixKind X.prog X.w) vs s.heap.objs.size h1 as) : ∃ H' : Hp, (∀ b o, H b = some o → H' b = some o) ∧ (∀ t ∈ as, H t = none) ∧ Paired (fun (t : Addr) (q : Key × V) => TupC H' t [kV q.1, q.2]) as kvs ∧ Inv X pins σ H' { s with heap := h1, toks := tk } := by
  have unlike : as.Nodup := g.rise.imp fun {a b} lt => Nat.ne_of_lt lt
  have free : ∀ t ∈ as, H t = none := fun t ht => I.hok.fresh (Nat.le_of_lt (g.above t ht))
  have here := putZ_at (h1 := h1) as kvs H (by rw [len, Paired.length kv]) unlike
  have off := fun b (q : b ∉ as) => putZ_off (h1 := h1) (b := b) as kvs H q
  have keep : ∀ b u, H b = some u → putZ h1 H as kvs b = some u := fun b u e => by rw [off b fun q => by rw [free b q] at e; cases e]; exact e
  have bare : ∀ t ∈ as, ((h1.get? t).getD (tupO [])).dict = none := fun t ht => by
    obtain ⟨j, hj⟩ := List.mem_iff_getElem?.mp ht
    obtain ⟨_, _, _, _, _, e⟩ := g.pairs j t hj
    rw [e]; rfl
  have tups : ∀ {us : List Addr} {ws : List (Key × V)}, (∀ u ∈ us, u ∈ as) → Paired (fun (t : Addr) (p : Key × V) => putZ h1 H as kvs t = some (.frz ((h1.get? t).getD (tupO [])) (.tup [kV p.1, p.2]))) us ws → Paired (fun (t : Addr) (q : Key × V) => TupC (putZ h1 H as kvs) t [kV q.1, q.2]) us ws := fun {us ws} m h => by
    induction h with
    | nil => exact .nil
    | cons e t ih => exact .cons ⟨_, bare _ (m _ (.head _)), e⟩ (ih fun u hu => m u (.tail _ hu))
  refine ⟨putZ h1 H as kvs, keep, free, tups (fun _ h => h) here, I.call' (ch := []) rfl ⟨fun b o q _ _ _ => old b o q, fun b o q _ _ _ => ⟨o.slots, old b o q⟩, fun b o q n _ => ?_, fun b o q _ => ⟨o, old b o q⟩, fun b xs q => keep b _ q, fun b o u q => keep b _ q, fun b ps q => ⟨#[], by rw [keep b _ q]; simp⟩⟩ (fun b u q => ?_) I.bare fun b z => by simp at z⟩
  · rw [off b fun z => absurd (Heap.lt_size q) (Nat.not_lt.mpr (Nat.le_of_lt (g.above b z)))]
    exact n
  · by_cases hb : b ∈ as
    · obtain ⟨j, pk, e1, e2, e3⟩ := LiI.paired_ix here hb
      obtain ⟨key, k, x, f1, f2, f3⟩ := g.pairs j b e1
      obtain rfl : HO.frz ((h1.get? b).getD (tupO [])) (.tup [kV pk.1, pk.2]) = u := Option.some.inj (e3.symm.trans q)
      obtain ⟨⟨k', x'⟩, g1, g2, g3⟩ := LiI.paired_get kv e2
      obtain ⟨rfl, rfl⟩ : k = k' ∧ x = x' := Prod.mk.inj (Option.some.inj (f1.symm.trans g1))
      exact ⟨by show h1.get? b = some ((h1.get? b).getD (tupO [])); rw [f3]; rfl, by show 2 ≤ sizeLine; decide, [key, x], .cons (by rw [g2]; exact relV_key (show keyIs k key = true from f2)) (.cons g3 .nil), ⟨_, f3, rfl, _, rfl⟩⟩
    · rw [off b hb] at q
      exact (I.hok b u q).stay (fun d v _ y => old d v y) (fun d y => keep d _ y) fun d xs y => keep d _ y
def rItemsT : V → Hp → VK → Prop := fun x H Q => ∃ (d : Addr) (kvs : List (Key × V)), x = .ref d ∧ Rd H d (.dK kvs) ∧
  ∀ (H1 : Hp) (p : Addr) (o : Obj) (ts : List Addr), (∀ b o, H b = some o → H1 b = some o) → (∀ t ∈ ts, H t = none) → Paired (fun (t : Addr) (q : Key × V) => TupC H1 t [kV q.1, q.2]) ts kvs → H1 p = none → o.dict = none → Q (.ref p) (upd H1 p (.frz o (.tup (ts.map V.ref))))
def tTupItems (te : TE) : TE := fun σ H Q => te σ H fun x H1 => rItemsT x H1 Q
theorem pe_tupItems {e : Expr} {te : TE} {p apos cpos pos : Pos} (calm : X.calm = true) (he : PE X e te) (g1 : Gl X "tuple") (m1 : X.mg "tuple" = none) (base : attributeBase e "items" X.env (eval e X.env) = eval e X.env := by rfl) (line : (apos.endLine == cpos.line) = true := by rfl)
    (hs : starEach [.Call (.Attribute e "items" apos) [] [] cpos] X.env = (false, eval (.Call (.Attribute e "items" apos) [] [] cpos) X.env) :: starEach [] X.env := by rfl) :
    PE X (.Call (.Name "tuple" p) [.Call (.Attribute e "items" apos) [] [] cpos] [] pos) (tTupItems te) := by
  constructor; intro pins s σ H Q I hq
  refine wpAny_Call_Name_kw (ld_blt I g1 m1 boot_tuple (callWith_type1 ?_ hs rfl)); rw [hs]
  refine (show wpAny _ _ (spliced ((false, eval (.Call (.Attribute e "items" apos) [] [] cpos) X.env) :: backTo pos (starEach [] X.env))) _ _ s from Calls.spliced_cons ?_)
  refine wpAny_Call_method (T := "dict") (id := "dict.items") base rfl line F.plainAttrs_dict F.slot_dict_items F.type_dict_items (thn (he.run pins s σ H _ I hq) fun u t ⟨x, H1, I1, rx, d, kvs, ex, hd, q⟩ => ?_)
  subst ex; obtain rfl : u = Value.ref d := rx
  obtain ⟨sz, h0, vs, kv, dd⟩ := hd.ok I1.hok
  obtain ⟨ep, at_⟩ := dd.dictAt
  have lk : kvs.length = vs.length := Paired.length kv
  have I2 : Inv X pins σ H1 { t with heap := t.heap.push { cls := .type "dict_items", data := .fields #[.ref d] } } := I1.kept (t' := t.toks) fun b ob q => Heap.get?_push_of_some _ q
  refine ⟨dd.typeIs, dd.mapOf.noDict, (show wpAny _ _ (callWith cpos (.builtin "dict.items") [.ref d] [] []) _ X.xe t from ?_)⟩
  refine method_meetsIn F.slot_dict_items F.entry_dict_items rfl (PySem.evalArgs_none ⟨rfl, dd.typeIs, F.args_dict_items_1 _, _, meets_dict_items (mixKind X.prog X.w) d h0, ⟨vs, dd⟩, Calls.spliced_nil ?_⟩)
  refine call_tuple_items (knd := mixKind X.prog X.w) (kvs := vs) (ep := ep) (I1.ok.hd calm) ⟨_, Heap.get?_push_size _ rfl, rfl, rfl⟩ (at_.push _) (by omega) fun h1 tk as old len g => ?_
  obtain ⟨H2, k1, k2, k3, J⟩ := pairs_laid (tk := tk) I2 kv old len g
  exact ⟨.ref h1.objs.size, _, J.laid (t' := tk) (o := .frz (tupOf as) (.tup (as.map V.ref))) (fun b o e => Heap.get?_push_of_some _ e) (Nat.le_refl _) (frz_ok (by rw [List.length_map]; omega) (LiI.vals_refs as)), rfl, q H2 _ _ as k1 k2 k3 (J.hok.fresh (Nat.le_refl _)) rfl⟩
end
def pairsD (ks : List Key) (ds : List D) : List D := List.zipWith (fun k d => .tup [keyD k, d]) ks ds
def gTupItems : List D → Option D
  | [.dct ks ds] => some (.tup (pairsD ks ds))
  | _ => none
section
variable {K : PySem.W.Frag} {F H : Hp}
theorem rps_pairs {F' : Hp} (le : FLe F F') : ∀ {ts : List Addr} {kvs : List (Key × V)} {ds : List D}, Paired (fun (t : Addr) (q : Key × V) => TupC F' t [kV q.1, q.2]) ts kvs → Rps K F (kvs.map (·.2)) ds → Rps K F' (ts.map V.ref) (pairsD (kvs.map (·.1)) ds)
  | _, _, _, .nil, .nil => .nil
  | _, _, _, .cons h t, .cons r rs => .cons (.tup h (.cons (rp_key _) (.cons (r.mono le) .nil))) (rps_pairs le t rs)
def newF (F H1 : Hp) (p : Addr) (o : Obj) (ts : List Addr) : Hp := fun b => if b = p then some (.frz o (.tup (ts.map V.ref))) else if b ∈ ts then H1 b else F b
theorem newF_p {H1 : Hp} {p : Addr} {o : Obj} {ts : List Addr} : newF F H1 p o ts p = some (.frz o (.tup (ts.map V.ref))) := if_pos rfl
theorem newF_t {H1 : Hp} {p b : Addr} {o : Obj} {ts : List Addr} (n : b ≠ p) (m : b ∈ ts) : newF F H1 p o ts b = H1 b := by unfold newF; rw [if_neg n, if_pos m]
theorem newF_o {H1 : Hp} {p b : Addr} {o : Obj} {ts : List Addr} (n : b ≠ p) (m : b ∉ ts) : newF F H1 p o ts b = F b := by unfold newF; rw [if_neg n, if_neg m]
theorem paired_on {α β : Type} {P Q : α → β → Prop} : ∀ {us : List α} {ws : List β}, (∀ u ∈ us, ∀ w, P u w → Q u w) → Paired P us ws → Paired Q us ws
  | _, _, _, .nil => .nil
  | _, _, h, .cons e t => .cons (h _ (.head _) _ e) (paired_on (fun u m => h u (.tail _ m)) t)
theorem items_new (fh : FLe F H) {kvs : List (Key × V)} {ds : List D} (r : Rps K F (kvs.map (·.2)) ds) {H1 : Hp} {p : Addr} {ts : List Addr} (keep : ∀ b o, H b = some o → H1 b = some o) (free : ∀ t ∈ ts, H t = none)
    (at_ : Paired (fun (t : Addr) (q : Key × V) => TupC H1 t [kV q.1, q.2]) ts kvs) (np : H1 p = none) {o : Obj} (ho : o.dict = none) :
    ∃ F', New F H F' (upd H1 p (.frz o (.tup (ts.map V.ref)))) ∧ Rp K F' (.ref p) (.tup (pairsD (kvs.map (·.1)) ds)) := by
  have hp : H p = none := by
    cases e : H p with
    | none => rfl
    | some o => rw [keep p o e] at np; cases np
  have nt : p ∉ ts := fun q => by
    obtain ⟨j, y, _, _, _, _, e⟩ := LiI.paired_ix at_ q
    rw [np] at e; cases e
  have le : FLe F (newF F H1 p o ts) := fun a o e => by
    have h := fh a o e
    rw [newF_o (fun q => by rw [q, hp] at h; cases h) (fun q => by rw [free a q] at h; cases h)]
    exact e
  refine ⟨newF F H1 p o ts, ⟨le, fun a o e => ?_, fun a o e => ?_, fun a o e => ?_, fun h a ps z => ?_⟩, .tup ⟨o, ho, newF_p⟩ (rps_pairs le (paired_on (fun u m w e => ?_) at_) r)⟩
  · rw [upd_ne (fun q => by rw [q, hp] at e; cases e)]
    exact keep a o e
  · by_cases n1 : a = p
    · rw [n1, newF_p] at e; rw [n1, upd_same]; exact e
    · rw [upd_ne n1]
      by_cases n2 : a ∈ ts
      · rw [newF_t n1 n2] at e; exact e
      · rw [newF_o n1 n2] at e; exact keep a o (fh a o e)
  · by_cases n1 : a = p
    · exact .inr (by rw [n1]; exact hp)
    · by_cases n2 : a ∈ ts
      · exact .inr (free a n2)
      · rw [newF_o n1 n2] at e; exact .inl e
  · by_cases n1 : a = p
    · rw [n1, newF_p] at z; cases z; rfl
    · by_cases n2 : a ∈ ts
      · obtain ⟨j, y, _, _, _, _, e⟩ := LiI.paired_ix at_ n2
        rw [newF_t n1 n2, e] at z; cases z; rfl
      · rw [newF_o n1 n2] at z; exact h a ps z
  · obtain ⟨ob, h1, h2⟩ := e
    exact ⟨ob, h1, by rw [newF_t (fun q : u = p => nt (by rw [← q]; exact m)) m]; exact h2⟩
end
section
variable {G : Gx} {ex : Exx} {X : Cx} {W : WX} {p apos cpos pos : Pos}
theorem psem_tupItems : PSem G (r1L rItemsT) gTupItems := fun F H vs ds d Q fh vw e q => by
  unfold gTupItems at e
  split at e
  · cases e
    cases vw with
    | cons h t =>
      cases t
      obtain ⟨a, kvs, rfl, rd, rfl, r⟩ := h.dct fh
      refine ⟨_, rfl, a, kvs, rfl, rd, fun H1 p o ts keep free at_ np ho => ?_⟩
      obtain ⟨F', nw, rp⟩ := items_new fh r keep free at_ np ho
      exact q _ _ F' nw rp
  · cases e
theorem d_tupItems {e : Expr} {se : SO} (calm : X.calm = true) (g1 : Gl X "tuple") (m1 : X.mg "tuple" = none) (he : DO (GK X ex) X W e se) (base : attributeBase e "items" X.env (eval e X.env) = eval e X.env := by rfl) (line : (apos.endLine == cpos.line) = true := by rfl)
    (hs : starEach [.Call (.Attribute e "items" apos) [] [] cpos] X.env = (false, eval (.Call (.Attribute e "items" apos) [] [] cpos) X.env) :: starEach [] X.env := by rfl) :
    DE (GK X ex) X W (.Call (.Name "tuple" p) [.Call (.Attribute e "items" apos) [] [] cpos] [] pos) (sOps gTupItems (b1 se)) :=
  wkE (pe_tupItems calm he g1 m1 base line hs) fun σ H Q h => one_ops (r := rItemsT) psem_tupItems h
end
end Dt
set_option Elab.async false
set_option linter.all false
set_option maxRecDepth 100000
set_option maxHeartbeats 4000000
namespace Dt
open PySem PySem.Spec PyProof.Rows L2
variable [HW]
section
variable {X : Cx} {W : WX} {ex : Exx} {a : Expr} {pos : Pos} {sa : SO}
/-- s[::-1] as a value, s a tuple or a list -/
def sRevE (s : SO) : SE := fun ρ => (s ρ).bind fun o ρ' => match o.get ρ' with
  | some (.lst xs) => .ok (.lst xs.reverse) ρ'
  | some (.tup xs) => .ok (.tup xs.reverse) ρ'
  | _ => .stuck
@[simp] theorem ev_revE (s : SO) (ρ : Env) : sRevE s ρ = (s ρ).bind fun o ρ' => match o.get ρ' with | some (.lst xs) => .ok (.lst xs.reverse) ρ' | some (.tup xs) => .ok (.tup xs.reverse) ρ' | _ => .stuck := rfl
end
end Dt
set_option Elab.async false
set_option linter.all false
set_option maxRecDepth 100000
set_option maxHeartbeats 4000000
namespace Dt
open PySem PySem.Spec PyProof.Rows L2
variable [HW]
section
variable {X : Cx} {pins : List (Addr × Obj)} {σ : L2.St} {H : Hp} {s : Shared}
theorem pairsV (I : Inv X pins σ H s) : ∀ {ps : List Addr} {kvs : List (Key × V)}, Paired (fun p kv => SqT X.K H p [kV kv.1, kv.2]) ps kvs →
    ∃ (us : List (Value × Value)) (prs : List (Key × Value)), KV kvs prs ∧ us.length = ps.length ∧ prs.length = ps.length ∧ ∀ (j : Nat) (k v : Value), us[j]? = some (k, v) → ∃ (b : Addr) (key : Key), ps[j]? = some b ∧ IsTup s.heap b #[k, v] ∧ prs[j]? = some (key, v) ∧ keyIs key k = true
  | _, _, .nil => ⟨[], [], .nil, rfl, rfl, fun j k v e => by simp at e⟩
  | _, _, .cons (a := p) (b := kv) h t => by
    obtain ⟨us, prs, r, l1, l2, hp⟩ := pairsV I t
    obtain ⟨its, rv, ht, _⟩ := I.tuple h
    obtain ⟨u, y, ei, ru, ry⟩ := vals2 rv
    subst ei
    refine ⟨(u, y) :: us, (kv.1, y) :: prs, .cons ⟨rfl, ry⟩ r, by simp [l1], by simp [l2], fun j k v e => ?_⟩
    cases j with
    | zero =>
      obtain ⟨rfl, rfl⟩ := Prod.mk.inj (Option.some.inj e)
      exact ⟨p, kv.1, rfl, ht, rfl, kV_is (P := X.prog) (w := X.w) ru⟩
    | succ j =>
      obtain ⟨b, key, e1, e2, e3, e4⟩ := hp j k v (by simpa using e)
      exact ⟨b, key, by simpa using e1, e2, by simpa using e3, e4⟩
def rDictT0 (K : PySem.W.Frag) : List V → Hp → VK → Prop := fun xs H Q => ∃ (a : Addr) (ps : List Addr) (kvs : List (Key × V)), xs = [V.ref a] ∧ TupC H a (ps.map V.ref) ∧ Paired (fun p kv => SqT K H p [kV kv.1, kv.2]) ps kvs ∧ ∀ p, H p = none → Q (.ref p) (upd H p (.dK (mergeK [] kvs)))
theorem call_dictT0 (calm : X.calm = true) : CallR X (.type "dict") (rDictT0 X.K) := by
  intro pins s σ H xs us Q I r ⟨a, ps, kvs, ex, ⟨o, hd, ha⟩, hp, q⟩
  subst ex
  obtain ⟨u, eu, rx⟩ := vals1 r
  subst eu; cases rx
  obtain ⟨at1, hz, its, rv, o2, at2, hc, n, hdat⟩ := I.hok a _ ha
  obtain rfl : o = o2 := Option.some.inj (at1.symm.trans at2)
  obtain rfl := refs_at rv
  rw [List.length_map] at hz
  obtain ⟨vs, prs, rel, l1, l2, hpr⟩ := pairsV I hp
  refine PySem.call_dict_pairs (knd := mixKind X.prog X.w) (kvs := prs) (PairArg.tuple a (ps.map Value.ref).toArray (fun j => ps.getD j 0) vs) (I.ok.hd calm) ⟨⟨o, n, at1, hc, hd, hdat⟩, by simp [l1], fun j k v e => ?_⟩ ⟨by omega, fun j k v e => ?_⟩ (by omega) fun h1 tk hd1 old => ?_
  · obtain ⟨b, key, e1, e2, e3, e4⟩ := hpr j k v e
    exact ⟨by simp [e1], .inl (by show s.heap.IsTuple (ps.getD j 0) #[k, v]; rw [List.getD_eq_getElem?_getD, e1]; exact e2)⟩
  · obtain ⟨b, key, e1, e2, e3, e4⟩ := hpr j k v e
    exact ⟨key, e3, e4⟩
  · have big : (s.heap.objs.size == sysModules) = false := beq_eq_false_iff_ne.mpr (Nat.ne_of_gt I.big)
    have fits : (mergeK [] kvs).length ≤ sizeLine := Nat.le_trans (length_mergeK kvs []) (by rw [List.length_nil, Nat.zero_add, rel.length, l2]; exact hz)
    exact ⟨.ref s.heap.objs.size, _, I.laid (t' := tk) (o := .dK (mergeK [] kvs)) (fun b o e => old b o (by simp) e) (Nat.le_refl _) ⟨fits, big, merged [] prs, KV.merge rel .nil, hd1⟩, rfl, q _ (I.hok.fresh (Nat.le_refl _))⟩
/-- .. or the copy of a dict -/
def rDictL (K : PySem.W.Frag) : List V → Hp → VK → Prop := fun xs H Q => ∃ (a : Addr) (ps : List Addr) (kvs : List (Key × V)), xs = [V.ref a] ∧ SqL K H a (ps.map V.ref) ∧ Paired (fun p kv => SqT K H p [kV kv.1, kv.2]) ps kvs ∧ ∀ p, H p = none → Q (.ref p) (upd H p (.dK (mergeK [] kvs)))
/-- .. of the empty tuple that is written -/
def rDictE (K : PySem.W.Frag) : List V → Hp → VK → Prop := fun xs H Q => ∃ a : Addr, xs = [V.ref a] ∧ EtC K a ∧ ∀ p, H p = none → Q (.ref p) (upd H p (.dK []))
theorem call_dictE (calm : X.calm = true) : CallR X (.type "dict") (rDictE X.K) := by
  intro pins s σ H xs us Q I r ⟨a, ex, ⟨n, sl, ha⟩, q⟩
  subst ex
  obtain ⟨u, eu, rx⟩ := vals1 r
  subst eu; cases rx
  have at1 := I.kIn _ _ ha
  refine PySem.call_dict_pairs (knd := mixKind X.prog X.w) (kvs := ([] : List (Key × Value))) (PairArg.tuple a #[] (fun j => 0) ([] : List (Value × Value))) (I.ok.hd calm) ⟨⟨_, n, at1, rfl, rfl, rfl⟩, rfl, fun j k v e => nomatch e⟩ ⟨rfl, fun j k v e => nomatch e⟩ (Nat.zero_le _) fun h1 tk hd1 old => ?_
  have big : (s.heap.objs.size == sysModules) = false := beq_eq_false_iff_ne.mpr (Nat.ne_of_gt I.big)
  exact ⟨.ref s.heap.objs.size, _, I.laid (t' := tk) (o := .dK []) (fun b o e => old b o (by simp) e) (Nat.le_refl _) ⟨Nat.zero_le _, big, merged [] [], KV.merge (.nil : KV [] []) .nil, hd1⟩, rfl, q _ (I.hok.fresh (Nat.le_refl _))⟩
def rDictT (K : PySem.W.Frag) : List V → Hp → VK → Prop := fun xs H Q => rDictT0 K xs H Q ∨ (∃ (a : Addr) (kvs : List (Key × V)), xs = [V.ref a] ∧ Rd H a (.dK kvs) ∧ ∀ p, H p = none → Q (.ref p) (upd H p (.dK kvs))) ∨ rDictL K xs H Q ∨ rDictE K xs H Q
theorem call_dictT (calm : X.calm = true) : CallR X (.type "dict") (rDictT X.K) := by
  intro pins s σ H xs us Q I r h
  rcases h with h | h | h | h
  · exact call_dictT0 calm pins s σ H xs us Q I r h
  · exact call_dictD pins s σ H xs us Q I r h
  · exact call_dictP calm pins s σ H xs us Q I r h
  · exact call_dictE calm pins s σ H xs us Q I r h
end
/-- the pairs' keys and values, one put behind the other -/
def dictGo : List D → List Key × List D → Option (List Key × List D)
  | [], acc => some acc
  | .tup [k, d] :: ds, acc => (keyOf k).bind fun k => dictGo ds (dPut acc.1 acc.2 k d)
  | _ :: _, _ => none
def gDict : List D → Option D
  | [.tup ds] => (dictGo ds ([], [])).map fun r => .dct r.1 r.2
  | [.dct ks ds] => some (.dct ks ds)
  | [.lst ds] => (dictGo ds ([], [])).map fun r => .dct r.1 r.2
  | [.etup] => some (.dct [] [])
  | _ => none
section
variable {K : PySem.W.Frag} {F H : Hp}
theorem dict_go_rps : ∀ {vs : List V} {ds : List D} {acc : List (Key × V)} {da : List D} {r : List Key × List D}, Rps K F vs ds → Rps K F (acc.map (·.2)) da → dictGo ds (acc.map (·.1), da) = some r →
    ∃ (ps : List Addr) (kvs : List (Key × V)), vs = ps.map V.ref ∧ Paired (fun p kv => TupC F p [kV kv.1, kv.2]) ps kvs ∧ (mergeK acc kvs).map (·.1) = r.1 ∧ Rps K F ((mergeK acc kvs).map (·.2)) r.2
  | _, _, acc, da, r, .nil, ra, e => by
    cases e
    exact ⟨[], [], rfl, .nil, rfl, ra⟩
  | _, _, acc, da, r, .cons (v := v) (d := d) h t, ra, e => by
    unfold dictGo at e
    split at e
    · rename_i h0; cases h0
    · rename_i k d ds h0
      cases h0
      cases h with
      | tup tc r2 =>
        cases r2 with
        | cons hk r3 =>
          cases r3 with
          | cons hd r4 =>
            cases r4
            cases ek : keyOf k with
            | none => rw [ek] at e; cases e
            | some key =>
              rw [ek, Option.bind_some] at e
              have ew := keyOf_vw (H := F) (.inl hk) ek
              subst ew
              obtain ⟨k1, k2⟩ := dPut_put (k := key) hd ra
              obtain ⟨ps, kvs, e1, e2, e3, e4⟩ := dict_go_rps (acc := putK acc key _) t k2 (by rw [k1]; exact e)
              exact ⟨_ :: ps, (key, _) :: kvs, by rw [e1]; rfl, .cons tc e2, e3, e4⟩
    · cases e
end
section
variable {G : Gx} {ex : Exx} {X : Cx} {W : WX}
theorem fsem_dict : FSem G (rDictT G.K) gDict := fun F H vs ds d Q fh vw e q => by
  unfold gDict at e
  split at e
  · rename_i ds
    cases e1 : dictGo ds ([], []) with
    | none => rw [e1] at e; cases e
    | some r =>
      rw [e1] at e
      cases e
      cases vw with
      | cons h t =>
        cases t
        rcases h with h | ⟨_, _, _, _, h⟩
        · cases h with
          | tup tc rs =>
            obtain ⟨ps, kvs, e2, e3, e4, e5⟩ := dict_go_rps (acc := []) rs .nil e1
            subst e2
            exact .inl ⟨_, ps, kvs, rfl, fh.tupC tc, paired_on (fun u _ w hw => (fh.tupC hw).sq) e3, fun p hp => q p _ hp ⟨_, rfl, e4, e5⟩⟩
        · exact h.elim
  · cases e
    obtain ⟨v, rfl, h⟩ := vw.one
    obtain ⟨a, kvs, rfl, rd, rfl, r⟩ := h.dct fh
    exact .inr (.inl ⟨a, kvs, rfl, rd, fun p hp => q p _ hp ⟨_, rfl, rfl, r⟩⟩)
  · rename_i ds
    cases e1 : dictGo ds ([], []) with
    | none => rw [e1] at e; cases e
    | some r =>
      rw [e1] at e
      cases e
      obtain ⟨v, rfl, h⟩ := vw.one
      obtain ⟨a, zs, rfl, t, rs⟩ := h.lst fh
      obtain ⟨ps, kvs, e2, e3, e4, e5⟩ := dict_go_rps (acc := []) rs .nil e1
      subst e2
      exact .inr (.inr (.inl ⟨a, ps, kvs, rfl, SqL.of t, paired_on (fun u _ w hw => (fh.tupC hw).sq) e3, fun p hp => q p _ hp ⟨_, rfl, e4, e5⟩⟩))
  · cases e
    obtain ⟨v, rfl, h⟩ := vw.one
    obtain ⟨a, rfl, t⟩ := h.etup
    exact .inr (.inr (.inr ⟨a, rfl, t, fun p hp => q p _ hp ⟨[], rfl, rfl, .nil⟩⟩))
  · cases e
end
def sGet1 (so : SO) (sk : SE) : SE := fun ρ => (so ρ).bind fun o ρ1 => match o.get ρ1 with
  | some (.dct _ _) => (sk ρ1).bind fun kd ρ2 => match o.get ρ2, keyOf kd with
    | some (.dct ks ds), some k => .ok ((dLook ks ds k).getD .non) ρ2
    | _, _ => .stuck
  | _ => .stuck
def sGet2 (so : SO) (sk sx : SE) : SE := fun ρ => (so ρ).bind fun o ρ1 => match o.get ρ1 with
  | some (.dct _ _) => (sk ρ1).bind fun kd ρ2 => (sx ρ2).bind fun x ρ3 => match o.get ρ3, keyOf kd with
    | some (.dct ks ds), some k => .ok ((dLook ks ds k).getD x) ρ3
    | _, _ => .stuck
  | _ => .stuck
@[simp] theorem ev_get1 (so : SO) (sk : SE) (ρ : Env) : sGet1 so sk ρ = (so ρ).bind fun o ρ1 => match o.get ρ1 with
  | some (.dct _ _) => (sk ρ1).bind fun kd ρ2 => match o.get ρ2, keyOf kd with
    | some (.dct ks ds), some k => .ok ((dLook ks ds k).getD .non) ρ2
    | _, _ => .stuck
  | _ => .stuck := rfl
@[simp] theorem ev_get2 (so : SO) (sk sx : SE) (ρ : Env) : sGet2 so sk sx ρ = (so ρ).bind fun o ρ1 => match o.get ρ1 with
  | some (.dct _ _) => (sk ρ1).bind fun kd ρ2 => (sx ρ2).bind fun x ρ3 => match o.get ρ3, keyOf kd with
    | some (.dct ks ds), some k => .ok ((dLook ks ds k).getD x) ρ3
    | _, _ => .stuck
  | _ => .stuck := rfl
section
variable {ex : Exx} {X : Cx} {W : WX} {o e f : Expr} {apos cpos : Pos} {so : SO} {sk sx : SE}
theorem vw_isD {K : PySem.W.Frag} {F H : Hp} (fh : FLe F H) {v : V} {ks : List Key} {ds : List D} (h : Vw K F H v (.dct ks ds)) : ∃ a, v = .ref a ∧ IsD H a := by
  obtain ⟨a, kvs, e, rd, _⟩ := h.dct fh
  exact ⟨a, e, .inl ⟨kvs, rd⟩⟩
theorem d_get1 (hu : At X W) (ho : DO (GK X ex) X W o so) (he : DE (GK X ex) X W e sk) (m : M1 X o "get" apos e cpos := by exact ⟨rfl, rfl, rfl, rfl⟩) : DE (GK X ex) X W (.Call (.Attribute o "get" apos) [e] [] cpos) (sGet1 so sk) :=
  wkE (pe_dget1 (by have := hu.un; omega) ho he m) fun σ H Q ⟨ρ, F, Rv, io, rel, q⟩ => by
    refine ⟨ρ, F, Rv, io, rel, ?_⟩
    unfold sGet1 at q
    cases e1 : so ρ with
    | stuck => rw [e1] at q; exact q.elim
    | exc x ρ' => rw [e1] at q; exact q
    | ok od ρ1 =>
      rw [e1, R.bind_ok] at q
      intro v H1 F1 le1 rel1 ok1
      cases e2 : od.get ρ1 with
      | none => rw [e2] at q; exact q.elim
      | some d =>
        rw [e2] at q
        cases d with
        | dct ks ds =>
          obtain ⟨a, rfl, isd⟩ := vw_isD rel1.fH (rel1.view (G := GK X ex) ok1 e2)
          refine ⟨a, rfl, isd, ρ1, F1, Rv, io, rel1, ?_⟩
          cases e3 : sk ρ1 with
          | stuck => rw [e3] at q; exact q.elim
          | exc x ρ' => rw [e3] at q; exact XPost.le q le1
          | ok kd ρ2 =>
            rw [e3] at q
            intro kv H2 F2 le2 rel2 rk
            have q : match (match od.get ρ2, keyOf kd with | some (.dct ks ds), some k => R.ok ((dLook ks ds k).getD .non) ρ2 | _, _ => .stuck) with | .ok d ρ' => EPost (GK X ex) io Rv F σ ρ' d Q | .exc x ρ' => XPost (GK X ex) W io Rv F ρ' x | .stuck => False := q
            cases e4 : od.get ρ2 with
            | none => rw [e4] at q; exact q.elim
            | some d2 =>
              rw [e4] at q
              cases d2 with
              | dct ks2 ds2 =>
                cases e5 : keyOf kd with
                | none => rw [e5] at q; exact q.elim
                | some k =>
                  rw [e5] at q
                  have q : EPost (GK X ex) io Rv F σ ρ2 ((dLook ks2 ds2 k).getD .non) Q := q
                  obtain ⟨b, kvs, eb, rd, ek, r⟩ := (rel2.view (G := GK X ex) (ok1.mono le2) e4).dct rel2.fH
                  cases eb
                  have ew := keyOf_vw (H := F2) (.inl rk) e5
                  refine ⟨valV kvs k, .inl ⟨kvs, k, rd, ew, rfl⟩, ?_⟩
                  rcases dLook_val k ek r with ⟨z1, z2⟩ | ⟨u, d', z1, z2, rp⟩
                  · rw [z1]; rw [z2] at q; exact q _ _ _ (le1.trans le2) rel2 .non
                  · rw [z1]; rw [z2] at q; exact q _ _ _ (le1.trans le2) rel2 rp
              | _ => exact q.elim
        | _ => exact q.elim
theorem d_get2 (hu : At X W) (ho : DO (GK X ex) X W o so) (he : DE (GK X ex) X W e sk) (hf : DE (GK X ex) X W f sx) (m : M2 X o "get" apos e f cpos := by exact ⟨rfl, rfl, rfl, rfl⟩) : DE (GK X ex) X W (.Call (.Attribute o "get" apos) [e, f] [] cpos) (sGet2 so sk sx) :=
  wkE (pe_dget2 (by have := hu.un; omega) ho he hf m) fun σ H Q ⟨ρ, F, Rv, io, rel, q⟩ => by
    refine ⟨ρ, F, Rv, io, rel, ?_⟩
    unfold sGet2 at q
    cases e1 : so ρ with
    | stuck => rw [e1] at q; exact q.elim
    | exc x ρ' => rw [e1] at q; exact q
    | ok od ρ1 =>
      rw [e1, R.bind_ok] at q
      intro v H1 F1 le1 rel1 ok1
      cases e2 : od.get ρ1 with
      | none => rw [e2] at q; exact q.elim
      | some d =>
        rw [e2] at q
        cases d with
        | dct ks ds =>
          obtain ⟨a, rfl, isd⟩ := vw_isD rel1.fH (rel1.view (G := GK X ex) ok1 e2)
          refine ⟨a, rfl, isd, ρ1, F1, Rv, io, rel1, ?_⟩
          cases e3 : sk ρ1 with
          | stuck => rw [e3] at q; exact q.elim
          | exc x ρ' => rw [e3] at q; exact XPost.le q le1
          | ok kd ρ2 =>
            rw [e3] at q
            intro kv H2 F2 le2 rel2 rk
            refine ⟨ρ2, F2, Rv, io, rel2, ?_⟩
            have q : match ((sx ρ2).bind fun x ρ3 => match od.get ρ3, keyOf kd with | some (.dct ks ds), some k => R.ok ((dLook ks ds k).getD x) ρ3 | _, _ => .stuck) with | .ok d ρ' => EPost (GK X ex) io Rv F σ ρ' d Q | .exc x ρ' => XPost (GK X ex) W io Rv F ρ' x | .stuck => False := q
            cases e6 : sx ρ2 with
            | stuck => rw [e6] at q; exact q.elim
            | exc x ρ' => rw [e6] at q; exact XPost.le q (le1.trans le2)
            | ok xd ρ3 =>
            rw [e6, R.bind_ok] at q
            intro xv H3 F3 le3 rel3 rx
            cases e4 : od.get ρ3 with
            | none => rw [e4] at q; exact q.elim
            | some d2 =>
              rw [e4] at q
              cases d2 with
              | dct ks2 ds2 =>
                cases e5 : keyOf kd with
                | none => rw [e5] at q; exact q.elim
                | some k =>
                  rw [e5] at q
                  have q : EPost (GK X ex) io Rv F σ ρ3 ((dLook ks2 ds2 k).getD xd) Q := q
                  obtain ⟨b, kvs, eb, rd, ek, r⟩ := (rel3.view (G := GK X ex) (ok1.mono (le2.trans le3)) e4).dct rel3.fH
                  cases eb
                  have ew := keyOf_vw (H := F2) (.inl rk) e5
                  refine ⟨valV kvs k, .inl ⟨kvs, k, rd, ew, rfl⟩, ?_⟩
                  rcases dLook_val k ek r with ⟨z1, z2⟩ | ⟨u, d', z1, z2, rp⟩
                  · rw [z1]; rw [z2] at q; exact q _ _ _ ((le1.trans le2).trans le3) rel3 rx
                  · rw [z1]; rw [z2] at q; exact q _ _ _ ((le1.trans le2).trans le3) rel3 rp
              | _ => exact q.elim
        | _ => exact q.elim
end
end Dt
set_option Elab.async false
set_option linter.all false
set_option maxRecDepth 100000
set_option maxHeartbeats 4000000
namespace Dt
open PySem PySem.Spec PyProof.Rows L2
variable [HW]
section
variable {ex : Exx} {X : Cx} {W : WX} {pos : Pos}
/-- a statement whose meaning is stuck: that it is never run is the plain law's to show -/
def sNever : SS := fun _ => .stuck
@[simp] theorem ev_never (ρ : Env) : sNever ρ = .stuck := rfl
theorem d_never {st : Stmt} : DS (GK X ex) X W st sNever := ⟨fun pins s σ H D I h => by
  obtain ⟨ρ, F, Rv, io, rel, q⟩ := h
  exact q.elim⟩
/-- a, b = x, y -/
def sPar (i j : Nat) (s : SA) : SS := fun ρ => (s ρ).bind fun ds ρ1 => match ds with
  | [d, e] => (gSet i d ρ1).bind fun _ ρ2 => (gSet j e ρ2).bind fun _ ρ3 => .ok .nx ρ3
  | _ => .stuck
@[simp] theorem ev_par (i j : Nat) (s : SA) (ρ : Env) : sPar i j s ρ = (s ρ).bind fun ds ρ1 => match ds with
  | [d, e] => (gSet i d ρ1).bind fun _ ρ2 => (gSet j e ρ2).bind fun _ ρ3 => .ok .nx ρ3
  | _ => .stuck := rfl
theorem d_par {i j : Nat} {x y : Str} {a b : Expr} {sA : SA} {px py pt : Pos} {kt k2 pt2} (hu : At X W) (hi : X.N[i]? = some x) (hj : X.N[j]? = some y) (hij : i ≠ j) (hx : X.env.scope.names.lookup x = some .local) (hy : X.env.scope.names.lookup y = some .local)
    (ha : DA (GK X ex) X W [a, b] sA) (hw : swappedStores [.Tuple [.Name x px, .Name y py] kt pt] (.Tuple [a, b] k2 pt2) X.env = pure (some [x, y])) (hs : swapsWithSole [.Tuple [.Name x px, .Name y py] kt pt] (.Tuple [a, b] k2 pt2) pos.line X.env = pure false := by rfl) :
    DS (GK X ex) X W (.Assign [.Tuple [.Name x px, .Name y py] kt pt] (.Tuple [a, b] k2 pt2) pos) (sPar i j sA) := wkS (ps_par hu.calm hu.nd hi hj hij hx hy ha hw hs) fun D σ H ⟨ρ, F, Rv, io, rel, q⟩ => by
  refine ⟨ρ, F, Rv, io, rel, ?_⟩
  unfold sPar at q
  cases e : sA ρ with
  | stuck => rw [e] at q; exact q.elim
  | exc x ρ' => rw [e] at q; exact q
  | ok ds ρ1 =>
    rw [e, R.bind_ok] at q
    intro vs H1 F1 le1 rel1 r
    match ds, r, q with
    | [d1, d2], .cons (v := v1) r1 (.cons (v := v2) r2 .nil), q =>
      refine ⟨v1, v2, rfl, ?_⟩
      cases e1 : gSet i d1 ρ1 with
      | stuck => dsimp only at q; rw [e1] at q; exact q.elim
      | exc x ρ'' => unfold gSet at e1; split at e1 <;> cases e1
      | ok u ρ2 =>
        dsimp only at q
        rw [e1, R.bind_ok] at q
        obtain ⟨h1, rfl⟩ := gSet_ok e1
        cases e2 : gSet j d2 (ρ1.set i (.fro d1)) with
        | stuck => rw [e2] at q; exact q.elim
        | exc x ρ'' => unfold gSet at e2; split at e2 <;> cases e2
        | ok u ρ3 =>
          rw [e2, R.bind_ok] at q
          obtain ⟨h2, rfl⟩ := gSet_ok e2
          exact q _ H1 F1 le1 ((rel1.setFro r1 h1).setFro r2 h2)
end
end Dt
set_option Elab.async false
set_option linter.all false
set_option maxRecDepth 100000
set_option maxHeartbeats 4000000
namespace Dt
open PySem PySem.Spec PyProof.Rows L2 StX
variable [HW]
section
variable {P : Program} {w : World} {K : PySem.W.Frag} {mg : Str → Option Value} {base : Heap}
theorem upN {P : Program} {w : World} : StX.CXUp (L2N.CX P w) := fun outer s H s2 H2 E e s' un kp ho ⟨a, B, G, cls, d, ea, fl, hok, ub, na, os, ag, he⟩ => by
  have fr : ∀ {b o}, s.heap.get? b = some o → H b = none → H2 b = none := fun {b o} q n => un.free b o q n (fun z => nomatch z)
  refine ⟨a, B, G, cls, d, ea, fl, hok, { keep := ?_, slot := ?_, free := ?_, there := ?_, tups := ?_, frzs := ?_, tbls := ?_ }, na, os.trans ho, ag, he⟩
  · exact fun b o q n => ub.keep b o (kp b o q) (fr q n)
  · exact fun b o q => ub.slot b o (kp b o q)
  · exact fun b o q n => ub.free b o (kp b o q) (fr q n)
  · exact fun b o q => ub.there b o (kp b o q)
  · exact fun b xs q => ub.tups b xs (un.tups b xs q)
  · exact fun b o xs q => ub.frzs b o xs (un.frzs b o xs q)
  · exact fun b ps q => let ⟨m1, e1⟩ := un.tbls b ps q; let ⟨m2, e2⟩ := ub.tbls b _ e1; ⟨m1 ++ m2, e2.trans (by rw [Array.append_assoc])⟩
/-- what a call with the values vs promises: the body, the tuple of them at a new address -/
def spS (G : Gx) (g : List D → FR) : Sp := fun vs H Q E => vs.length ≤ sizeLine ∧ ∀ p, H p = none → spP G 1 g [V.ref p] (upd H p (.tup vs)) Q E
theorem d_defS {x qual : Str} {st : Stmt} {f : Addr} {fd : FuncData} {N : List Str} {pv : Str} {k : Nat} {body : SS} (ea : String → Addr) (F : Fun K x qual st f fd) (S : FnScope N [pv] (defScope st))
    (hb : ∀ us rest : List Value, us.length = ([] : List Str).length → bindArgs fd ⟨us ++ rest, []⟩ = (newTuple rest >>= fun t => pure (([] : List Str).zip us ++ [(pv, t)])))
    (h : ∀ (cdv : Value) (A : Around) (outer : List PySem.Env) (s : Shared) (H : Hp) (E : XK), Room k (A.deeper (envOfC qual (defScope st) s.heap.objs.size f cdv)) →
      DSs ⟨K, ⟨ea, []⟩⟩ (cxOf (L2N.CX P w) P w K mg base N qual (defScope st) f cdv A outer s H E) (wE E) (defBody st) body) : FnR P w K mg base (L2N.CX P w) (k + 1) f (spS ⟨K, ⟨ea, []⟩⟩ (runP N.length 1 body)) := by
  obtain ⟨oc, od, kV, doc, pm, an, cdv, ct, osl, rfl, lk, hcd⟩ := F.ex
  refine FnR.imp (fn_star (ps := []) (pv := pv) (sp := spP ⟨K, ⟨ea, []⟩⟩ 1 (runP N.length 1 body)) lk hcd S upN hb fun A outer s H vs Q E hr ⟨ds, F0, Rv, hl, ap, r, q⟩ => ⟨_, h cdv A outer s H E hr, ?_⟩) fun vs H Q E ⟨z, q⟩ => ⟨[], vs, rfl, rfl, z, q⟩
  have e0 : L2.start N vs = vs.map some ++ List.replicate (N.length - 1) none := by unfold L2.start; rw [hl]
  rw [e0]
  refine ⟨_, F0, Rv, {}, rel_start ap r, ?_⟩
  unfold runP at q
  cases e : body (ds.map Cell.fro ++ List.replicate (N.length - 1) Cell.no) with
  | stuck => rw [e] at q; exact q.elim
  | exc x ρ' => rw [e] at q; exact fun cls dd σ' H' F' le rel xr => q cls dd H' F' le ⟨rel.fH, rel.rH, rel.dj, rel.nt⟩ xr
  | ok fl ρ' =>
    rw [e] at q
    cases fl with
    | nx => exact fun σ' H' F' le rel => q _ H' F' le ⟨rel.fH, rel.rH, rel.dj, rel.nt⟩ .non
    | bk => exact q.elim
    | ct => exact q.elim
    | rt d => exact fun v σ' H' F' le rel rp => q v H' F' le ⟨rel.fH, rel.rH, rel.dj, rel.nt⟩ rp
/-- a def of the text with one star parameter, as it stands; and what it computes -/
structure FnS (K : PySem.W.Frag) (mg : Str → Option Value) (x : Str) (st : Stmt) (pv : Str) : Prop where
  there : ∃ f fd, Fun K x x st f fd ∧ mg x = some (.ref f) ∧ ∀ us rest : List Value, us.length = ([] : List Str).length → bindArgs fd ⟨us ++ rest, []⟩ = (newTuple rest >>= fun t => pure (([] : List Str).zip us ++ [(pv, t)]))
structure CalS (P : Program) (w : World) (K : PySem.W.Frag) (mg : Str → Option Value) (base : Heap) (x : Str) (k : Nat) (sp : Sp) : Prop where
  there : ∃ f, FnR P w K mg base (L2N.CX P w) k f sp ∧ mg x = some (.ref f) ∧ PySem.W.keepIn K (.ref f) = true
theorem CalS.mono {j k : Nat} {x : Str} {sp : Sp} (C : CalS P w K mg base x j sp) (h : j ≤ k) : CalS P w K mg base x k sp := let ⟨f, F, r⟩ := C.there; ⟨f, FnR.mono F h, r⟩
theorem cal_S {x : Str} {st : Stmt} {N : List Str} {pv : Str} {k : Nat} {body : SS} (ea : String → Addr) (F : FnS K mg x st pv) (S : FnScope N [pv] (defScope st))
    (h : ∀ (f : Addr) (cdv : Value) (A : Around) (outer : List PySem.Env) (s : Shared) (H : Hp) (E : XK), Room k (A.deeper (envOfC x (defScope st) s.heap.objs.size f cdv)) →
      DSs ⟨K, ⟨ea, []⟩⟩ (cxOf (L2N.CX P w) P w K mg base N x (defScope st) f cdv A outer s H E) (wE E) (defBody st) body) : CalS P w K mg base x (k + 1) (spS ⟨K, ⟨ea, []⟩⟩ (runP N.length 1 body)) := by
  obtain ⟨f, fd, F, hm, hb⟩ := F.there
  exact ⟨f, d_defS ea F S hb (h f), hm, F.kp⟩
end
section
variable {ex : Exx} {X : Cx} {W : WX} {e : Expr} {es : List Expr} {pos p : Pos} {x : Str} {sA : SA} {k : Nat} {g : List D → FR}
theorem pe_callFR {CX : CXT} {f : Addr} {sp : Sp} {E : L2.St → XK} {t : TA} (F : FnR X.prog X.w X.K X.mg X.base CX k f sp) (hr : Room k X.A) (hg : Gl X x) (hm : X.mg x = some (.ref f)) (hk : PySem.W.keepIn X.K (.ref f) = true) (hx : ∀ σ, PassesAt CX X σ (E σ))
    (ha : PA X (e :: es) t) (hdb : (x == ("__debug__" : Str)) = false := by decide) (he : starEach (e :: es) X.env = (false, eval e X.env) :: starEach es X.env := by rfl) (hpl : (backTo pos (starEach es X.env)).any (·.1) = false := by rfl) : PE X (.Call (.Name x p) (e :: es) [] pos) (tCallS sp E t) := by
  constructor; intro pins s σ H Q I h
  refine wpAny_Call_Name_kw (ld_glob I hg hm (PySem.W.callWith_K (h₀ := X.base) I.ok.mod.kin hk (thn (ha.run pos pins s σ H _ I h) fun us s1 ⟨vs, H1, I1, r, q⟩ => ⟨I1.kIn, wpAny_call (codeAny_mono (F X.A X.stack s1 H1 us vs Q (E σ) hr I1.env0 r q) fun r s' hq => ?_)⟩) he hpl) hdb)
  cases r with
  | error e => exact hx σ pins H1 s1 e s' I1 hq
  | ok fl =>
    cases fl with
    | ret u => exact I1.after hq
    | _ => exact False.elim hq
def sCallS (g : List D → FR) (s : SA) : SE := fun ρ => (s ρ).bind fun ds ρ' => if ds.length ≤ sizeLine then endP (g [.arg ds]) ρ' else .stuck
@[simp] theorem ev_callS (g : List D → FR) (s : SA) (ρ : Env) : sCallS g s ρ = (s ρ).bind fun ds ρ' => if ds.length ≤ sizeLine then endP (g [.arg ds]) ρ' else .stuck := rfl
theorem d_callS (hu : At X W) (C : CalS X.prog X.w X.K X.mg X.base x k (spS (GK X ex) g)) (hr : Room k X.A) (hg : Gl X x)
    (ha : DA (GK X ex) X W (e :: es) sA) (hdb : (x == ("__debug__" : Str)) = false := by decide) (he : starEach (e :: es) X.env = (false, eval e X.env) :: starEach es X.env := by rfl) (hpl : (backTo pos (starEach es X.env)).any (·.1) = false := by rfl) :
    DE (GK X ex) X W (.Call (.Name x p) (e :: es) [] pos) (sCallS g sA) :=
  let ⟨f, F, hm, hk⟩ := C.there
  wkE (pe_callFR (E := WE W) F hr hg hm hk (fun σ => L2N.passAt hu.tk σ) ha hdb he hpl) fun σ H Q ⟨ρ, F, Rv, io, rel, q⟩ => by
    refine ⟨ρ, F, Rv, io, rel, ?_⟩
    unfold sCallS at q
    cases e : sA ρ with
    | stuck => rw [e] at q; exact q.elim
    | exc x ρ' => rw [e] at q; exact q
    | ok ds ρ' =>
      rw [e, R.bind_ok] at q
      intro vs H1 F1 le rel1 r
      by_cases hn : ds.length ≤ sizeLine
      · rw [if_pos hn] at q
        refine ⟨by rw [r.length]; exact hn, fun a ha => ?_⟩
        have leN : FLe F1 (upd F1 a (.tup vs)) := FLe.upd _ (rel1.fH.noneOf ha)
        have relN := rel1.after (New.obj rel1.fH ha (.tup vs))
        refine ⟨[.arg ds], upd F1 a (.tup vs), restOf (upd F1 a (.tup vs)) (upd H1 a (.tup vs)) none, rfl, restOf_apart relN none, .cons (.arg (.inl (.inl upd_same)) (r.mono leN)) .nil, ?_⟩
        cases e2 : g [.arg ds] with
        | stuck => rw [e2] at q; exact q.elim
        | ok d o => rw [e2] at q; exact fun v H' F' le2 ap rp => q v H' F' ((le.trans leN).trans le2) (relN.behind le2 ap) rp
        | exc x => rw [e2] at q; exact fun cls dd H' F' le2 ap xr => q cls dd σ H' F' ((le.trans leN).trans le2) (relN.behind le2 ap) xr
      · rw [if_neg hn] at q; exact q.elim
end
end Dt
set_option Elab.async false
set_option linter.all false
set_option maxRecDepth 100000
set_option maxHeartbeats 4000000
namespace Dt
open PySem PySem.Spec PyProof.Rows L2
variable [HW]
abbrev Acc := List Key × List D
/-- one clause: the items, one after another; bs: what stands behind it -/
def clGo (vs : List Nat) (g : SG) (bs : Acc → Env → R Acc) : List D → Acc → Env → R Acc
  | [], acc, ρ => .ok acc ρ
  | d :: ds, acc, ρ => (g d ρ).bind fun _ ρ1 => (bs acc ρ1).bind fun acc' ρ2 => if plainAt ρ2 vs = true then clGo vs g bs ds acc' (wipeE ρ2 vs) else .stuck
/-- the last clause's body: k: v is put -/
def putS (sk s : SE) : Acc → Env → R Acc := fun acc ρ => (sk ρ).bind fun kd ρ1 => (s ρ1).bind fun z ρ2 => match keyOf kd with
  | none => .stuck
  | some k => if acc.1.length < sizeLine then .ok (dPut acc.1 acc.2 k z) ρ2 else .stuck
/-- the first one's body: the second clause -/
def innS (vs1 : List Nat) (it1 : SA) (g1 : SG) (bs : Acc → Env → R Acc) : Acc → Env → R Acc := fun acc ρ => (it1 ρ).bind fun ds ρ1 => if plainAt ρ1 vs1 = true then clGo vs1 g1 bs ds acc (wipeE ρ1 vs1) else .stuck
def sDComp2 (vs vs1 : List Nat) (it : SA) (g : SG) (it1 : SA) (g1 : SG) (sk s : SE) : SE := fun ρ => (it ρ).bind fun ds ρ1 =>
  if plainAt ρ1 vs = true then (noX (clGo vs g (innS vs1 it1 g1 (putS sk s)) ds ([], []) (wipeE ρ1 vs))).bind fun zs ρ2 => .ok (.dct zs.1 zs.2) (backE ρ1 ρ2 vs) else .stuck
theorem Keeps.refl {vs : List Nat} {σ : L2.St} : Keeps vs σ σ := ⟨rfl, fun _ _ => rfl⟩
theorem thnX {X : Cx} (hx : X.xe = fun _ _ => False) {α : Type} {t : Sem α} {Q Q' : α → Shared → Prop} {M : Model} {A : Around} {E : Value → Shared → Prop} {s : Shared} (h : wpAny M A t Q X.xe s) (hQ : ∀ a s, Q a s → Q' a s) : wpAny M A t Q' E s := by
  rw [hx] at h
  exact thnF h hQ
/-- a body (what comes behind it is k): from the dict at Dl as it stands to the dict behind it; the slots vs are its own -/
structure BodyOk (G : Gx) (X : Cx) (Dl : Addr) (vs : List Nat) (body : Sem Fin → Sem Fin) (bs : Acc → Env → R Acc) : Prop where
  run : ∀ (pins : List (Addr × Obj)) (σ : L2.St) (H : Hp) (s : Shared) (ρ : Env) (F Rv : Hp) (io : Io G.ex.tabs) (kvs : List (Key × V)) (dn : List D) (zs : Acc) (ρ' : Env), Inv X pins σ H s → Rel G.K io (upd Rv Dl (.dK kvs)) ρ F σ H →
    Rps G.K F (kvs.map (·.2)) dn → bs (kvs.map (·.1), dn) ρ = .ok zs ρ' → ∀ (k : Sem Fin) (Q : Fin → Shared → Prop) (E : Value → Shared → Prop),
    (∀ s' σ' H' kvs' F', Inv X pins σ' H' s' → FLe F F' → Keeps vs σ σ' → Rel G.K io (upd Rv Dl (.dK kvs')) ρ' F' σ' H' → kvs'.map (·.1) = zs.1 → Rps G.K F' (kvs'.map (·.2)) zs.2 → wpAny (model X.prog X.w) X.A k Q E s') →
    wpAny (model X.prog X.w) X.A (body k) Q E s
section
variable {G : Gx} {X : Cx} {Dl : Addr} {vs : List Nat}
theorem body_put {kx vx : Expr} {sk s : SE} {place : Pos} (hx : X.xe = fun _ _ => False) (hk : DE G X W0 kx sk) (he : DE G X W0 vx s) :
    BodyOk G X Dl vs (fun k => (do let kv ← eval kx X.env; let vv ← holding [kv] (eval vx X.env); standAt place; holding [kv, vv] (dictSet Dl kv vv)) >>= fun _ => k) (putS sk s) := by
  refine ⟨fun pins σ H s0 ρ F Rv io kvs dn zs ρ' I rel rps e k Q E q => wpAny_bind ?_⟩
  unfold putS at e
  cases e1 : sk ρ with
  | stuck => rw [e1] at e; cases e
  | exc x ρ1 => rw [e1] at e; cases e
  | ok kd ρ1 =>
    rw [e1, R.bind_ok] at e
    cases e2 : s ρ1 with
    | stuck => rw [e2] at e; cases e
    | exc x ρ2 => rw [e2] at e; cases e
    | ok z ρ2 =>
      rw [e2, R.bind_ok] at e
      cases e3 : keyOf kd with
      | none => rw [e3] at e; cases e
      | some key =>
        rw [e3] at e
        have e : (if kvs.length < sizeLine then R.ok (dPut (kvs.map (·.1)) dn key z) ρ2 else .stuck) = R.ok zs ρ' := by simpa using e
        by_cases hz : kvs.length < sizeLine
        · rw [if_pos hz] at e; cases e
          have r1 := hk.run pins s0 σ H (fun x H1 => ∃ F1, FLe F F1 ∧ Rel G.K io (upd Rv Dl (.dK kvs)) ρ1 F1 σ H1 ∧ Rp G.K F1 x kd) I ⟨ρ, F, _, io, rel, by rw [e1]; exact fun v H' F' a b c => ⟨F', a, b, c⟩⟩
          refine wpAny_bind (thnX hx r1 fun kv s1 ⟨x, H1, I1, rx, F1, le1, rel1, rp1⟩ => ?_)
          have r2 := he.run pins s1 σ H1 (fun x H2 => ∃ F2, FLe F1 F2 ∧ Rel G.K io (upd Rv Dl (.dK kvs)) ρ' F2 σ H2 ∧ Rp G.K F2 x z) I1 ⟨ρ1, F1, _, io, rel1, by rw [e2]; exact fun v H' F' a b c => ⟨F', a, b, c⟩⟩
          refine wpAny_bind (wpAny_holding (thnX hx r2 fun vv s2 ⟨y, H2, I2, ry, F2, le2, rel2, rp2⟩ => wpAny_bind (wpAny_standAt (wpAny_holding ?_))))
          have ek := keyOf_vw (H := H1) (.inl rp1) e3
          subst ek
          obtain ⟨k1, k2⟩ := dPut_put (k := key) rp2 (rps.mono (le1.trans le2))
          exact d_dictSet I2 (rel2.rH Dl _ upd_same) hz rx ry fun s3 I3 => q s3 σ _ (putK kvs key y) F2 I3 (le1.trans le2) Keeps.refl rel2.resPut k1 k2
        · rw [if_neg hz] at e; cases e
/-- a clause's loop -/
theorem clause_loop (hc : X.calm = true) (hx : X.xe = fun _ _ => False) {kx vx : Expr} {gens : List Comprehension} {scope : Scope} {pos : Pos} {depth : Nat} {tg : Expr} {it : Addr} {body : Sem Fin → Sem Fin} {spos : Pos} {js : List Nat} {g : SG} {bs : Acc → Env → R Acc}
    (ht : compTurn (.DictComp kx vx gens scope pos) depth (.ref it) (.ref Dl) X.env = (do
      standAt spos
      match ← pyNext (.ref it) with
      | none => pure (.done .next)
      | some v => do
        letOwnedTupleGo tg (.ref it) v
        assign tg X.env v
        body (again (.compLoop (.DictComp kx vx gens scope pos) depth (.ref it) (.ref Dl) X.env))))
    (pg : DG G X W0 js tg g) (hjs : ∀ j ∈ js, j ∈ vs) (hb : BodyOk G X Dl vs body bs) {fp : List Addr} {tn : Nat → Heap → Prop} {J : It} (T : Turn X.prog X.w X.K tg J fp it tn) {pins : List (Addr × Obj)} {σ : L2.St} (hσ : wipe σ vs = σ)
    (hf : ∀ b ∈ fp, ∀ H : Hp, H b = none → FpOk X pins H b) {io : Io G.ex.tabs} {Rv F0 : Hp} {ds : List D} {zs : Acc} {ρe : Env} (J1 : IterOk G.K J F0 ds) {R' : Result → Shared → Prop}
    (hR : ∀ s' H' kvs' F', Inv X pins σ H' s' → (∀ b ∈ fp, H' b = none) → FLe F0 F' → Rel G.K io (upd Rv Dl (.dK kvs')) ρe F' σ H' → kvs'.map (·.1) = zs.1 → Rps G.K F' (kvs'.map (·.2)) zs.2 → R' (.ok .next) s')
    {s : Shared} {H : Hp} {ρ : Env} {F : Hp} {kvs : List (Key × V)} {dn : List D} (I0 : Inv X pins σ H s) (st0 : tn 0 s.heap) (n0 : ∀ b ∈ fp, H b = none) (le0 : FLe F0 F) (rel0 : Rel G.K io (upd Rv Dl (.dK kvs)) ρ F σ H) (r0 : Rps G.K F (kvs.map (·.2)) dn)
    (go0 : clGo vs g bs ds (kvs.map (·.1), dn) ρ = .ok zs ρe) : codeAny (model X.prog X.w) X.A (.compLoop (.DictComp kx vx gens scope pos) depth (.ref it) (.ref Dl) X.env) R' s := by
  refine codeAny_loop rfl (fun n s' => ∃ (i : Nat) (H' : Hp) (ρi : Env) (Fi : Hp) (kvs : List (Key × V)) (dn : List D), n = ds.length - i ∧ i ≤ ds.length ∧ Inv X pins σ H' s' ∧ tn i s'.heap ∧ (∀ b ∈ fp, H' b = none) ∧ FLe F0 Fi ∧
    Rel G.K io (upd Rv Dl (.dK kvs)) ρi Fi σ H' ∧ Rps G.K Fi (kvs.map (·.2)) dn ∧ clGo vs g bs (ds.drop i) (kvs.map (·.1), dn) ρi = .ok zs ρe) (fun n s1 hI => ?_) ds.length ⟨0, H, ρ, F, kvs, dn, rfl, Nat.zero_le _, I0, st0, n0, le0, rel0, r0, go0⟩
  obtain ⟨i, H1, ρi, Fi, kvs, dn, rfl, hi, I1, st1, n1, le1, rel1, r1, go1⟩ := hI
  show wpAny _ X.A ((compTurn (.DictComp kx vx gens scope pos) depth (.ref it) (.ref Dl) X.env).onRaise fun x => do noteFrame x X.env; theTreesLotGoes x) _ _ s1
  refine wpAny_noted ?_
  rw [ht]
  refine wpAny_bind (wpAny_standAt (wpAny_bind ?_))
  by_cases hlt : i < ds.length
  · refine thnF (T.item X rfl rfl rfl hc i pins s1 σ H1 (fun _ _ => False) I1 (fun b hb => hf b hb H1 (n1 b hb)) st1 (J1.go i Fi H1 le1 rel1.fH hlt)) fun r s2 ⟨u, hr, h2⟩ => ?_
    subst hr
    refine wpAny_bind (thnF h2 fun _ s3 ⟨x, H3, I3, rx, y, st3, n3⟩ => ?_)
    obtain ⟨d, hd, hdr⟩ := drop_at hlt
    rw [hdr] at go1
    unfold clGo at go1
    obtain ⟨F3, nw, rp⟩ := J1.yld i Fi H1 H3 x d le1 rel1.fH hd y
    have rel3 := rel1.after nw
    cases e3 : g d ρi with
    | stuck => rw [e3] at go1; cases go1
    | exc x ρ' => rw [e3] at go1; cases go1
    | ok _ ρ4 =>
      rw [e3, R.bind_ok] at go1
      have I3' := I3.pinned (fun b hb => hf b hb H3 (n3 b hb)) (T.obj _ _ st3)
      have r4 := pg.run (pins ++ pinsAt fp s3.heap) s3 σ H3 x u (fun σ4 H4 => ∃ F4, FLe F3 F4 ∧ Rel G.K io (upd Rv Dl (.dK kvs)) ρ4 F4 σ4 H4 ∧ Keeps js σ σ4) I3' rx ⟨d, ρi, F3, _, io, rel3, rp, by rw [e3]; exact fun σ' H' F' a b c => ⟨F', a, b, c⟩⟩
      refine wpAny_bind (thnX hx r4 fun _ s4 ⟨σ4, H4, I4, F4, le4, rel4, kp4⟩ => ?_)
      cases e5 : bs (kvs.map (·.1), dn) ρ4 with
      | stuck => rw [e5] at go1; cases go1
      | exc x ρ' => rw [e5] at go1; cases go1
      | ok acc ρ5 =>
        rw [e5, R.bind_ok] at go1
        refine hb.run _ σ4 H4 s4 ρ4 F4 Rv io kvs dn acc ρ5 I4 rel4 (r1.mono (nw.f.trans le4)) e5 _ _ _ fun s5 σ5 H5 kvs5 F5 I5 le5 kp5 rel5 k5 r5 => ?_
        by_cases hp : plainAt ρ5 vs = true
        · rw [if_pos hp] at go1
          have out : ∀ j, j ∉ vs → σ5[j]? = (wipe σ vs)[j]? := fun j hj => by rw [hσ, kp5.2 j hj, kp4.2 j fun z => hj (hjs j z)]
          have hw : wipe σ5 vs = σ := (wipe_same (kp5.1.trans kp4.1) out).trans hσ
          have rel6 := rel5.wiped hp
          rw [hw] at rel6
          have pin : ∀ b ∈ fp, ∀ o, s3.heap.get? b = some o → s5.heap.get? b = some o ∧ H5 b = none := fun b hb o eo => let z := I5.pin (b, o) (List.mem_append_right _ (List.mem_append_right _ (mem_pinsAt hb eo))); ⟨z.1, z.2.1⟩
          exact wpAny_pure ⟨rfl, ds.length - (i + 1), by omega, i + 1, H5, wipeE ρ5 vs, F5, kvs5, acc.2, rfl, hlt, I5.unpinned.weak (by rw [← hw, wipe_length]) (fun j v ej => by rw [← hw] at ej; exact (wipe_some ej).1),
            T.keep _ _ _ st3 fun b hb o eo => (pin b hb o eo).1, fun b hb => by obtain ⟨o, eo, _⟩ := T.obj _ _ st3 b hb; exact (pin b hb o eo).2, ((le1.trans nw.f).trans le4).trans le5, rel6, r5, by rw [k5]; exact go1⟩
        · rw [if_neg hp] at go1; cases go1
  · have hi2 : i = ds.length := by omega
    subst hi2
    rw [List.drop_eq_nil_of_le (Nat.le_refl _)] at go1
    unfold clGo at go1
    cases go1
    refine thnF (T.done X rfl rfl rfl hc _ pins s1 σ H1 (fun _ _ => False) I1 (fun b hb => hf b hb H1 (n1 b hb)) st1 (J1.stop Fi H1 le1 rel1.fH)) fun r s2 ⟨hr, I2⟩ => ?_
    subst hr
    exact wpAny_pure (hR s2 H1 kvs Fi I2 n1 le1 rel1 rfl r1)
/-- a clause behind the first one starts -/
theorem start_any {prog : Program} {w : World} {A : Around} {R' : Result → Shared → Prop} {s : Shared} {kx vx : Expr} {gens : List Comprehension} {scope : Scope} {pos : Pos} {n : Nat} {t i : Expr} {ifs : List Expr} {it acc : Value} {env : PySem.Env} (hn : gens[n]? = some ⟨t, i, ifs, 0⟩)
    (h0 : codeAny (model prog w) A (.compLoop (.DictComp kx vx gens scope pos) n it acc env) R' s)
    (h : ∀ E, wpAny (model prog w) A (pyIter it) (fun j s' => codeAny (model prog w) A (.compLoop (.DictComp kx vx gens scope pos) n j acc env) R' s') E s) : codeAny (model prog w) A (.compStart (.DictComp kx vx gens scope pos) n it acc env) R' s := by
  refine codeAny_of_tree ?_
  show wpAny _ _ ((compStart (.DictComp kx vx gens scope pos) n it acc env).onRaise (fun x => do noteFrame x env; standAt theWindowsPlace)) _ _ s
  refine wpAny_notedAt ?_
  unfold compStart
  have hn : (clausesOf (.DictComp kx vx gens scope pos))[n]? = some ⟨t, i, ifs, 0⟩ := hn
  rw [hn]
  refine wpAny_bind (wpAny_askSetting (wpAny_ite ?_))
  split
  · first | exact wpAny_bind (wpAny_pure (wpAny_pure ⟨rfl, h0⟩)) | exact wpAny_pure ⟨rfl, h0⟩
  · refine wpAny_bind (wpAny_rule ?_)
    exact wpAny_bind (wpAny_standAt (wpAny_bind (thn (h _) fun j s' hj => wpAny_pure ⟨rfl, hj⟩)))
theorem wipe_twice {σ : L2.St} {vs : List Nat} : wipe (wipe σ vs) vs = wipe σ vs := wipe_same (wipe_length σ vs) fun _ _ => rfl
theorem body_inner {kx vx tg iter tg1 iter1 : Expr} {scope : Scope} {pos : Pos} {vs1 js1 : List Nat} {it1 : SA} {g1 : SG} {bs : Acc → Env → R Acc} {body1 : Sem Fin → Sem Fin} (hc : X.calm = true) (hx : X.xe = fun _ _ => False)
    (hi1 : DI G X W0 tg1 iter1 it1) (pg1 : DG G X W0 js1 tg1 g1) (hjs1 : ∀ j ∈ js1, j ∈ vs1) (hv : ∀ j ∈ vs1, j ∈ vs) (hs1 : ∀ x, foldedSetIterable iter1 X.env x = pure x) (hb : BodyOk G X Dl vs1 body1 bs)
    (ht : ∀ I : Addr, compTurn (.DictComp kx vx [⟨tg, iter, [], 0⟩, ⟨tg1, iter1, [], 0⟩] scope pos) 1 (.ref I) (.ref Dl) X.env = (do
      standAt iter1.pos
      match ← pyNext (.ref I) with
      | none => pure (.done .next)
      | some v => do
        letOwnedTupleGo tg1 (.ref I) v
        assign tg1 X.env v
        body1 (again (.compLoop (.DictComp kx vx [⟨tg, iter, [], 0⟩, ⟨tg1, iter1, [], 0⟩] scope pos) 1 (.ref I) (.ref Dl) X.env)))) :
    BodyOk G X Dl vs (fun k => do
      let x ← eval iter1 X.env
      standAt iter1.pos
      let x ← foldedSetIterable iter1 X.env x
      let _ ← runOwn (.compStart (.DictComp kx vx [⟨tg, iter, [], 0⟩, ⟨tg1, iter1, [], 0⟩] scope pos) 1 (← holding [x] (pyIter x)) (.ref Dl) X.env) X.env
      k) (innS vs1 it1 g1 bs) := by
  refine ⟨fun pins σ H s0 ρ F Rv io kvs dn zs ρ' I rel rps e k Q E q => ?_⟩
  unfold innS at e
  cases e1 : it1 ρ with
  | stuck => rw [e1] at e; cases e
  | exc x ρ1 => rw [e1] at e; cases e
  | ok ds ρ1 =>
    rw [e1, R.bind_ok] at e
    by_cases hp : plainAt ρ1 vs1 = true
    case neg => rw [if_neg hp] at e; cases e
    rw [if_pos hp] at e
    have r1 := hi1.run pins s0 σ H (fun J H1 => ∃ F1, FLe F F1 ∧ Rel G.K io (upd Rv Dl (.dK kvs)) ρ1 F1 σ H1 ∧ IterOk G.K J F1 ds) I ⟨ρ, F, _, io, rel, by rw [e1]; exact fun J H' F' a b c => ⟨F', a, b, c⟩⟩
    refine wpAny_bind (thnX hx r1 fun v s1 h1 => ?_)
    refine wpAny_bind (wpAny_standAt (wpAny_bind (wpAny_of_eq (hs1 v) (wpAny_bind (wpAny_holding (thnX hx h1 fun itv s2 h2 => ?_))))))
    obtain ⟨I1, fp, tn, J, H2, e2, I2, T, st2, f2, F2, le2, rel2, J1⟩ := h2
    subst e2
    refine wpAny_bind (wpAny_runOwn ?_)
    rw [Around.mark_none]
    have loop : codeAny (model X.prog X.w) X.A (.compLoop (.DictComp kx vx [⟨tg, iter, [], 0⟩, ⟨tg1, iter1, [], 0⟩] scope pos) 1 (.ref I1) (.ref Dl) X.env) (fun r s' => match r with | .ok _ => wpAny (model X.prog X.w) X.A k Q E s' | .error _ => False) s2 :=
      clause_loop hc hx (ht I1) pg1 hjs1 hb T wipe_twice (fun b hb H hn => ⟨hn, (f2 b hb).2⟩) J1
        (fun s' H' kvs' F' I' n' le' rel' k' r' => q s' (wipe σ vs1) H' kvs' F' I' (le2.trans le') ⟨wipe_length σ vs1, fun j hj => by rw [wipe_get, if_neg fun z => hj (hv j z)]⟩ rel' k' r')
        (I2.weak (wipe_length σ vs1) fun j v ej => (wipe_some ej).1) st2 (fun b hb => (f2 b hb).1) (FLe.refl _) (rel2.wiped hp) (rps.mono le2) e
    refine codeAny_mono (start_any (t := tg1) (i := iter1) (ifs := []) rfl loop fun E => T.self X.A 0 _ _ _ st2 loop) fun r s' hr => ?_
    cases r with
    | ok f => exact hr
    | error e => exact hr.elim
end
theorem d_dcomp2F {ex : Exx} {X : Cx} {W : WX} {kx vx tg iter tg1 iter1 : Expr} {scope : Scope} {own : List (Str × Nat)} {pos : Pos} {vs1 js js1 : List Nat} {it it1 : SA} {g g1 : SG} {sk s : SE} (hu : At X W) (hi : DI (GK X ex) X W tg iter it) (ok : BlkOk X.N X.env.scope scope own)
    (hg : ∀ (s : Shared) (H : Hp) (C : Addr) (cl : List (Str × Addr)) (fp : List Addr), DG (GK X ex) (X.blk s H scope (compEnvC scope cl C X.env) fp) W0 js tg g)
    (hi1 : ∀ (s : Shared) (H : Hp) (C : Addr) (cl : List (Str × Addr)) (fp : List Addr), DI (GK X ex) (X.blk s H scope (compEnvC scope cl C X.env) fp) W0 tg1 iter1 it1)
    (hg1 : ∀ (s : Shared) (H : Hp) (C : Addr) (cl : List (Str × Addr)) (fp : List Addr), DG (GK X ex) (X.blk s H scope (compEnvC scope cl C X.env) fp) W0 js1 tg1 g1)
    (hk : ∀ (s' : Shared) (H : Hp) (C : Addr) (cl : List (Str × Addr)) (fp : List Addr), DE (GK X ex) (X.blk s' H scope (compEnvC scope cl C X.env) fp) W0 kx sk)
    (he : ∀ (s' : Shared) (H : Hp) (C : Addr) (cl : List (Str × Addr)) (fp : List Addr), DE (GK X ex) (X.blk s' H scope (compEnvC scope cl C X.env) fp) W0 vx s)
    (hjs : js.all (fun j => (own.map (·.2)).contains j) = true) (hjs1 : js1.all (fun j => vs1.contains j) = true) (hv : vs1.all (fun j => (own.map (·.2)).contains j) = true)
    (hs : ∀ x, foldedSetIterable iter X.env x = pure x := by intro _; rfl) (hs1 : ∀ env x, foldedSetIterable iter1 env x = pure x := by intro _ _; rfl) :
    DF (GK X ex) X W (.DictComp kx vx [⟨tg, iter, [], 0⟩, ⟨tg1, iter1, [], 0⟩] scope pos) (sDComp2 (own.map (·.2)) vs1 it g it1 g1 sk s) := by
  refine ⟨fun pins s0 σ H Q I h => ?_⟩
  rw [arm_eval_DictComp]
  have mem : ∀ {a b : List Nat}, a.all (fun j => b.contains j) = true → ∀ j ∈ a, j ∈ b := fun h j hj => by have w := List.all_eq_true.mp h j hj; simpa using w
  obtain ⟨ρ, F, Rv, io, rel, q⟩ := h
  have hI : tI (GK X ex) W it σ H fun J H1 => ∃ F1 ds ρ1 zs ρe, FLe F F1 ∧ Rel X.K io Rv ρ1 F1 σ H1 ∧ IterOk X.K J F1 ds ∧ plainAt ρ1 (own.map (·.2)) = true ∧ clGo (own.map (·.2)) g (innS vs1 it1 g1 (putS sk s)) ds ([], []) (wipeE ρ1 (own.map (·.2))) = .ok zs ρe ∧
      ∀ p H' F', FLe F F' → Rel X.K io Rv (backE ρ1 ρe (own.map (·.2))) F' σ H' → OwnAt X.K F' Rv H' p (.dct zs.1 zs.2) → Loose (backE ρ1 ρe (own.map (·.2))) σ p → Q (.ref p) H' := by
    refine ⟨ρ, F, Rv, io, rel, ?_⟩
    unfold sDComp2 at q
    cases e : it ρ with
    | stuck => rw [e] at q; exact q.elim
    | exc x ρ' => rw [e] at q; exact q
    | ok ds ρ1 =>
      rw [e, R.bind_ok] at q
      by_cases hp : plainAt ρ1 (own.map (·.2)) = true
      case neg => rw [if_neg hp] at q; exact q.elim
      rw [if_pos hp] at q
      cases e2 : clGo (own.map (·.2)) g (innS vs1 it1 g1 (putS sk s)) ds ([], []) (wipeE ρ1 (own.map (·.2))) with
      | stuck => rw [e2] at q; exact q.elim
      | exc x ρ' => rw [e2] at q; exact q.elim
      | ok zs ρe => rw [e2] at q; exact fun J H' F' a b c => ⟨F', ds, ρ1, zs, ρe, a, b, c, hp, e2, q⟩
  have hfree : ∀ y ∈ scope.names, y.2 = .free → ∃ c, X.env.cells.lookup y.1 = some c := fun y hy e => I.ok.has _ ((ok.free y hy e).elim .inl .inr)
  refine wpAny_comprehension_free (use := none) rfl hs (closure_ok hfree) ok.kind (fun y hy e => by rw [ok.uniq y hy, e]) (thn (hi.run pins s0 σ H _ I hI) fun xv s1 h1 => thn h1 fun itv s2 h2 => ?_)
  obtain ⟨I0, fp, tn, J, H2, e0, I2, T, st2, f2, F1, ds, ρ1, zs, ρe, le1, rel1, J1, hp, hgo, qq⟩ := h2
  subst e0
  refine wpAny_newObj_type (newEnv_comp ?_)
  generalize hD : s2.heap.objs.size = Dl
  have nD : H2 Dl = none := I2.hok.fresh (Nat.le_of_eq hD)
  have nR : Rv Dl = none := rel1.rH.noneOf nD
  generalize h3 : ({ s2 with heap := s2.heap.push { cls := .type "dict", data := .dict #[] } } : Shared) = s3
  have eh : s3.heap = s2.heap.push { cls := .type "dict", data := .dict #[] } := by rw [← h3]
  have I3 : Inv X pins σ (upd H2 Dl (.dK [])) s3 := by
    rw [← h3]; refine I2.laid (t' := s2.toks) (fun b o e => Heap.get?_push_of_some _ e) (Nat.le_of_eq hD) ?_
    rw [← hD]; exact dk_empty s2.heap I2.big
  have lt : ∀ b ∈ fp, b < s2.heap.objs.size := fun b hb => let ⟨_, e, _⟩ := T.obj _ _ st2 b hb; Heap.lt_size e
  have f3 : ∀ b ∈ fp, FpOk X pins (upd H2 Dl (.dK [])) b ∧ b < s3.heap.objs.size := fun b hb =>
    ⟨⟨by rw [upd_ne (by rw [← hD]; exact Nat.ne_of_lt (lt b hb))]; exact (f2 b hb).1, (f2 b hb).2⟩, by rw [eh, Heap.size_push]; exact Nat.lt_succ_of_lt (lt b hb)⟩
  have I4 := block_start I3 ok hu.nd f3
  have st3 : tn 0 s3.heap := T.keep _ _ _ st2 fun b _ o e => by rw [eh]; exact Heap.get?_push_of_some _ e
  have relS := (rel1.wiped hp).resAdd nD (.dK [])
  have pg := hg s3 (upd H2 Dl (.dK [])) s3.heap.objs.size (cellsFrom (s3.heap.objs.size + 1) scope.names (cloFrom X.env.cells scope.names [])) fp
  have pi1 := hi1 s3 (upd H2 Dl (.dK [])) s3.heap.objs.size (cellsFrom (s3.heap.objs.size + 1) scope.names (cloFrom X.env.cells scope.names [])) fp
  have pg1 := hg1 s3 (upd H2 Dl (.dK [])) s3.heap.objs.size (cellsFrom (s3.heap.objs.size + 1) scope.names (cloFrom X.env.cells scope.names [])) fp
  have pk := hk s3 (upd H2 Dl (.dK [])) s3.heap.objs.size (cellsFrom (s3.heap.objs.size + 1) scope.names (cloFrom X.env.cells scope.names [])) fp
  have pv := he s3 (upd H2 Dl (.dK [])) s3.heap.objs.size (cellsFrom (s3.heap.objs.size + 1) scope.names (cloFrom X.env.cells scope.names [])) fp
  show codeAny _ _ (.compStart (.DictComp kx vx [⟨tg, iter, [], 0⟩, ⟨tg1, iter1, [], 0⟩] scope pos) 0 (.ref I0) (.ref Dl) (compEnvC scope (cellsFrom (s3.heap.objs.size + 1) scope.names (cloFrom X.env.cells scope.names [])) s3.heap.objs.size X.env)) (compPost (model X.prog X.w) X.A X.xe none (EP X pins σ Q) (.ref Dl) s3.heap.objs.size) { s3 with heap := pushCells (s3.heap.push { cls := .type "dict", data := .dict #[] }) scope.names }
  generalize hce : compEnvC scope (cellsFrom (s3.heap.objs.size + 1) scope.names (cloFrom X.env.cells scope.names [])) s3.heap.objs.size X.env = ce at I4 pg pi1 pg1 pk pv ⊢
  have cL : ce.locals = s3.heap.objs.size := by subst hce; rfl
  generalize hH3 : upd H2 Dl (.dK []) = H3 at I3 I4 pg pi1 pg1 pk pv f3 relS
  generalize hs4 : ({ s3 with heap := pushCells (s3.heap.push { cls := .type "dict", data := .dict #[] }) scope.names } : Shared) = s4 at I4 ⊢
  have st4 : tn 0 s4.heap := T.keep _ _ _ st3 fun b _ o e => by rw [← hs4]; exact pushCells_keeps _ _ _ _ (Heap.get?_push_of_some _ e)
  have b1 : BodyOk (GK X ex) (X.blk s3 H3 scope ce fp) Dl vs1 _ (putS sk s) := body_put (place := { kx.pos with endLine := vx.pos.endLine, endCol := vx.pos.endCol }) rfl pk pv
  have b0 : BodyOk (GK X ex) (X.blk s3 H3 scope ce fp) Dl (own.map (·.2)) _ (innS vs1 it1 g1 (putS sk s)) := body_inner (kx := kx) (vx := vx) (tg := tg) (iter := iter) (scope := scope) (pos := pos) hu.calm rfl pi1 pg1 (mem hjs1) (mem hv) (hs1 _) b1 fun _ => rfl
  have loop : codeAny (model X.prog X.w) X.A (.compLoop (.DictComp kx vx [⟨tg, iter, [], 0⟩, ⟨tg1, iter1, [], 0⟩] scope pos) 0 (.ref I0) (.ref Dl) ce) (compPost (model X.prog X.w) X.A X.xe none (EP X pins σ Q) (.ref Dl) s3.heap.objs.size) s4 := by
    refine clause_loop (X := X.blk s3 H3 scope ce fp) (G := GK X ex) (pins := []) (kvs := []) (dn := []) (spos := iter.pos) hu.calm rfl rfl pg (mem hjs) b0 T wipe_twice
      (fun b hb H hn => ⟨hn, (I4.ok.exf b hb).1, I4.ok.exfs b hb, .inl hb, fun x c e => (I4.ok.exf b hb).2 x c e, fun p hp => absurd hp (by simp)⟩) J1 (fun s' H' kvs' F' I6 n6 le6 rel6 k6 r6 => ?_) I4 st4 (fun b hb => (f3 b hb).1.1) (FLe.refl F1) relS .nil hgo
    have I7 : Inv X pins σ H' s' := I3.call' (ch := fp) I6.os I6.base I6.hok I6.bare fun b hb => let ⟨_, a, _, c, d, e⟩ := (f3 b hb).1; ⟨c, a, d, e⟩
    have nC : H' s3.heap.objs.size = none := by have z : H' ce.locals = none := I6.free; rw [cL] at z; exact z
    obtain ⟨m, hn, _⟩ := I6.loc
    have hn : s'.heap.Ns ce.locals m := hn
    rw [cL] at hn
    obtain ⟨z0, z1, z2, z3, z4, z5⟩ : FpOk X pins H' s3.heap.objs.size := I3.fpOk (Nat.le_refl _) nC
    obtain ⟨relD, n1, n2, lo⟩ := rel6.resDrop nR
    have relB := rel1.back (vs := own.map (·.2)) relD le6 hp
    have fin : Q (.ref Dl) H' := by
      refine qq Dl H' F' (le1.trans le6) relB ⟨n1, nR, _, n2, kvs', rfl, k6, r6⟩ fun i c d e1 e2 e3 => ?_
      have hlen : ρ1.length = ρe.length := by rw [rel1.len, relD.len, wipe_length]
      rw [(backE_get hlen _).2] at e1
      by_cases hi : i ∈ own.map (·.2)
      · rw [if_pos hi] at e1; rcases plain_at hp hi e1 with z | ⟨_, z⟩ <;> (subst z; cases e2)
      · rw [if_neg hi] at e1; exact lo i c d e1 e2 (by rw [wipe_get, if_neg hi]; exact e3)
    exact ⟨m, hn, fun h'' sb => ⟨.ref Dl, H', I7.turned (t' := s'.toks) (fun b o hb e => (sb.2 b hb).trans e) z0 z1 z3 z4 z5, rfl, fin⟩⟩
  exact codeAny_compStart_dict loop (T.self X.A 0 _ _ _ st4 loop)
end Dt
set_option Elab.async false
set_option linter.all false
set_option maxRecDepth 100000
set_option maxHeartbeats 4000000
namespace Dt
open PySem PySem.Spec PyProof.Rows L2
variable [HW]
/-- the def at f keeps its promise -/
structure CalA (P : Program) (w : World) (K : PySem.W.Frag) (mg : Str → Option Value) (base : Heap) (f : Addr) (k : Nat) (sp : Sp) : Prop where
  there : ∃ fd ps, FnOk P w K mg base (L2N.CX P w) k f fd ps sp ∧ PySem.W.keepIn K (.ref f) = true ∧ Binds K fd ps []
theorem Cal.at_ {P : Program} {w : World} {K : PySem.W.Frag} {mg : Str → Option Value} {base : Heap} {x : Str} {j k : Nat} {sp : Sp} (C : Cal P w K mg base x j sp) (h : j ≤ k) (t : ∃ u, mg x = some u ∧ RelV (.ref (fnA K x)) u) : CalA P w K mg base (fnA K x) k sp := by
  obtain ⟨f, fd, ps, F, hm, hk, hb⟩ := C.there
  obtain ⟨u, e, r⟩ := t
  rw [hm] at e
  cases e
  have r : Value.ref f = Value.ref (fnA K x) := r
  cases r
  exact ⟨fd, ps, F.mono h, hk, hb⟩
section
variable {ex : Exx} {X : Cx} {W : WX} {e : Expr} {es : List Expr} {x : Str} {p pos : Pos} {k : Nat} {sA : SA}
/-- a def as a value -/
theorem callP_core {n : Nat} {g : List D → FR} {σ : L2.St} {H : Hp} {Q : VK} (h : tE (GK X ex) W (sCallP n g sA) σ H Q) : tA (GK X ex) W sA σ H fun vs H1 => spP (GK X ex) n g vs H1 Q (WE W σ) := by
  obtain ⟨ρ, F, Rv, io, rel, q⟩ := h
  refine ⟨ρ, F, Rv, io, rel, ?_⟩
  unfold sCallP at q
  cases e1 : sA ρ with
  | stuck => rw [e1] at q; exact q.elim
  | exc x ρ' => rw [e1] at q; exact q
  | ok ds ρ' =>
    rw [e1, R.bind_ok] at q
    intro vs H1 F1 le rel1 r
    by_cases hn : ds.length = n
    case neg => rw [if_neg hn] at q; exact q.elim
    rw [if_pos hn] at q
    refine ⟨ds, F1, restOf F1 H1 none, r.length.trans hn, restOf_apart rel1 none, r, ?_⟩
    cases e2 : g ds with
    | stuck => rw [e2] at q; exact q.elim
    | ok d o => rw [e2] at q; exact fun v H' F' le2 ap rp => q v H' F' (le.trans le2) (rel1.behind le2 ap) rp
    | exc x => rw [e2] at q; exact fun cls dd H' F' le2 ap xr => q cls dd σ H' F' (le.trans le2) (rel1.behind le2 ap) xr
/-- f() -/
theorem d_call0 {g : List D → FR} (hu : At X W) (C : Cal X.prog X.w X.K X.mg X.base x k (spP (GK X ex) 0 g)) (hr : Room k X.A) (hg : Gl X x) (hdb : (x == ("__debug__" : Str)) = false := by decide) : DE (GK X ex) X W (.Call (.Name x p) [] [] pos) (sCallP 0 g sNil) := by
  refine ⟨fun pins s σ H Q I h => ?_⟩
  obtain ⟨f, fd, ps, F, hm, hk, hb⟩ := C.there
  refine wpAny_Call_Name_kw (ld_glob I hg hm (PySem.W.callWith_K0 I.kIn hk (run_fnS (us := []) F hr hb (L2N.passAt hu.tk σ) I .nil ?_)) hdb)
  obtain ⟨ρ, F1, Rv, io, rel, q⟩ := callP_core h
  exact q [] H F1 (FLe.refl _) rel .nil
def pairUp (xs ys : List D) : List D := List.zipWith (fun x y => .arg [x, y]) xs ys
def zipD : List D → Option (List D)
  | [.lst xs, .lst ys] => some (pairUp xs ys)
  | _ => none
def iZipS (s : SA) : SA := fun ρ => (s ρ).bind fun ds ρ' => ofO (zipD ds) ρ'
@[simp] theorem ev_iZip (s : SA) (ρ : Env) : iZipS s ρ = (s ρ).bind fun ds ρ' => ofO (zipD ds) ρ' := rfl
def sPairs : List (SE × SE) → Env → R (List (Key × D))
  | [], ρ => .ok [] ρ
  | t :: r, ρ => (t.1 ρ).bind fun kd ρ1 => (t.2 ρ1).bind fun d ρ2 => match keyOf kd with
    | none => .stuck
    | some k => (sPairs r ρ2).bind fun l ρ3 => .ok ((k, d) :: l) ρ3
def putAll (l : List (Key × D)) (acc : List Key × List D) : List Key × List D := l.foldl (fun acc kd => dPut acc.1 acc.2 kd.1 kd.2) acc
def sDisp (l : List (SE × SE)) : SE := fun ρ => (noX (sPairs l ρ)).bind fun l ρ' => if l.length ≤ 15 then .ok (.dct (putAll l ([], [])).1 (putAll l ([], [])).2) ρ' else .stuck
@[simp] theorem ev_pairs0 (ρ : Env) : sPairs [] ρ = .ok [] ρ := rfl
@[simp] theorem ev_pairs1 (t : SE × SE) (r : List (SE × SE)) (ρ : Env) : sPairs (t :: r) ρ = (t.1 ρ).bind fun kd ρ1 => (t.2 ρ1).bind fun d ρ2 => match keyOf kd with
    | none => .stuck
    | some k => (sPairs r ρ2).bind fun l ρ3 => .ok ((k, d) :: l) ρ3 := rfl
@[simp] theorem ev_disp (l : List (SE × SE)) (ρ : Env) : sDisp l ρ = (noX (sPairs l ρ)).bind fun l ρ' => if l.length ≤ 15 then .ok (.dct (putAll l ([], [])).1 (putAll l ([], [])).2) ρ' else .stuck := rfl
theorem pairs_core {G : Gx} {io : Io G.ex.tabs} {Rv : Hp} {σ : L2.St} : ∀ {l : List (SE × SE)} {ρ ρ' : Env} {F H : Hp} {kds : List (Key × D)} {Q : List (V × V) → Hp → Prop}, Rel G.K io Rv ρ F σ H → sPairs l ρ = .ok kds ρ' →
    (∀ (kvs : List (Key × V)) (H' F' : Hp), FLe F F' → Rel G.K io Rv ρ' F' σ H' → kvs.map (·.1) = kds.map (·.1) → Rps G.K F' (kvs.map (·.2)) (kds.map (·.2)) → Q (kvs.map fun kv => (kV kv.1, kv.2)) H') → tPairs (l.map fun t => (tE G W t.1, tE G W t.2)) σ H Q
  | [], ρ, ρ', F, H, kds, Q, rel, e, q => by
    cases e
    exact q [] H F (FLe.refl F) rel rfl .nil
  | t :: r, ρ, ρ', F, H, kds, Q, rel, e, q => by
    rw [ev_pairs1] at e
    refine ⟨ρ, F, Rv, io, rel, ?_⟩
    cases e1 : t.1 ρ with
    | stuck => rw [e1] at e; cases e
    | exc x ρ1 => rw [e1] at e; cases e
    | ok kd ρ1 =>
      rw [e1, R.bind_ok] at e
      intro x H1 F1 le1 rel1 rp1
      refine ⟨ρ1, F1, Rv, io, rel1, ?_⟩
      cases e2 : t.2 ρ1 with
      | stuck => rw [e2] at e; cases e
      | exc x ρ1 => rw [e2] at e; cases e
      | ok d ρ2 =>
        rw [e2, R.bind_ok] at e
        cases e3 : keyOf kd with
        | none => rw [e3] at e; cases e
        | some key =>
          rw [e3] at e
          intro y H2 F2 le2 rel2 rp2
          have ek := keyOf_vw (H := H1) (.inl rp1) e3
          subst ek
          cases e4 : sPairs r ρ2 with
          | stuck => rw [e4] at e; cases e
          | exc x ρ1 => rw [e4] at e; cases e
          | ok l4 ρ4 =>
            rw [e4] at e
            cases e
            exact pairs_core rel2 e4 fun kvs H' F' le rel' k' r' => q ((key, y) :: kvs) H' F' ((le1.trans le2).trans le) rel' (by simp [k']) (.cons (rp2.mono le) r')
theorem merge_put {K : PySem.W.Frag} {F : Hp} : ∀ {kds : List (Key × D)} {kvs acc : List (Key × V)} {da : List D}, kvs.map (·.1) = kds.map (·.1) → Rps K F (kvs.map (·.2)) (kds.map (·.2)) → Rps K F (acc.map (·.2)) da →
    (mergeK acc kvs).map (·.1) = (putAll kds (acc.map (·.1), da)).1 ∧ Rps K F ((mergeK acc kvs).map (·.2)) (putAll kds (acc.map (·.1), da)).2
  | [], [], acc, da, _, _, ra => ⟨rfl, ra⟩
  | [], _ :: _, _, _, e, _, _ => by simp at e
  | _ :: _, [], _, _, e, _, _ => by simp at e
  | kd :: kds, kv :: kvs, acc, da, e, r, ra => by
    rw [List.map_cons, List.map_cons] at e
    obtain ⟨e1, e2⟩ := List.cons.inj e
    cases r with
    | cons r1 r2 =>
      obtain ⟨k1, k2⟩ := dPut_put (k := kv.1) r1 ra
      obtain ⟨h1, h2⟩ := merge_put (acc := putK acc kv.1 kv.2) e2 r2 k2
      have e3 : putAll (kd :: kds) (acc.map (·.1), da) = putAll kds ((putK acc kv.1 kv.2).map (·.1), (dPut (acc.map (·.1)) da kv.1 kd.2).2) := by
        show putAll kds (dPut (acc.map (·.1)) da kd.1 kd.2) = _
        have k1' : (putK acc kv.1 kv.2).map (·.1) = (dPut (acc.map (·.1)) da kv.1 kd.2).1 := k1
        rw [← e1, k1']
      rw [e3]
      exact ⟨h1, h2⟩
theorem d_dispF {keys : List (Option Expr)} {values : List Expr} {l : List (SE × SE)} (h : PPs X pos keys values (l.map fun t => (tE (GK X ex) W t.1, tE (GK X ex) W t.2))) (hall : keys.all (·.isSome) = true := by rfl) (hl : keys.length = values.length := by rfl) (h0 : keys ≠ [] := by simp)
    (h15 : keys.length ≤ 15 := by decide) : DF (GK X ex) X W (.Dict keys values pos) (sDisp l) := wkE (pe_disp h hall hl h0 h15) fun σ H Q ⟨ρ, F, Rv, io, rel, q⟩ => by
  rw [ev_disp] at q
  intro p hp
  cases e : sPairs l ρ with
  | stuck => rw [e] at q; exact q.elim
  | exc x ρ' => rw [e] at q; exact q.elim
  | ok kds ρ' =>
    rw [e] at q
    have q : match (if kds.length ≤ 15 then R.ok (.dct (putAll kds ([], [])).1 (putAll kds ([], [])).2) ρ' else .stuck : R D) with | .ok d ρ' => ∀ p H' F', FLe F F' → Rel X.K io Rv ρ' F' σ H' → OwnAt X.K F' Rv H' p d → Loose ρ' σ p → Q (.ref p) H' | .exc x ρ' => XPost (GK X ex) W io Rv F ρ' x | .stuck => False := q
    by_cases h5 : kds.length ≤ 15
    case neg => rw [if_neg h5] at q; exact q.elim
    rw [if_pos h5] at q
    have nR : Rv p = none := rel.rH.noneOf hp
    refine pairs_core (rel.resAdd hp (.dK [])) e fun kvs H2 F2 le rel2 k2 r2 => ⟨rel2.rH p _ upd_same, kvs, rfl, ?_, ?_⟩
    · have := congrArg List.length k2
      rw [List.length_map, List.length_map] at this
      omega
    · obtain ⟨relD, n1, n2, lo⟩ := (rel2.resPut (o' := .dK (mergeK [] kvs))).resDrop nR
      obtain ⟨m1, m2⟩ := merge_put (acc := []) k2 r2 .nil
      exact q p _ F2 le relD ⟨n1, nR, _, n2, _, rfl, m1, m2⟩ lo
theorem Rel.keep {K : PySem.W.Frag} {T : List (Addr × Str)} {io : Io T} {Rv F : Hp} {ρ : Env} {σ : L2.St} {H : Hp} (r : Rel K io Rv ρ F σ H) {p : Addr} {o : HO} {d : D} (e : H p = some o) (ob : OwnObj K F p o d) (nF : F p = none) (lo : Loose ρ σ p) : Rel K io (L2.upd Rv p o) ρ F σ H := by
  refine ⟨r.fH, fun a u h => ?_, fun a u h => ?_, r.len, fun i c v e1 e2 => ?_, r.inj, r.ios, r.ioc, fun t ht => let q := r.tab t ht; let ⟨ps, ep⟩ := q.tbl; q.mv q.1 (by rw [upd_ne (own_ne (R := fun _ => none) ⟨nF, rfl, o, e, ob⟩ ep)]; exact q.2.1) (fun _ e => e) (FLe.refl F) (q.nR.upd (ob.nt default).1 ob.nx), r.nt⟩
  · by_cases z : a = p
    · subst z; rw [upd_same] at h; cases h; exact e
    · rw [upd_ne z] at h; exact r.rH a u h
  · rw [upd_ne (fun z => by subst z; rw [nF] at h; cases h)]
    exact r.dj a u h
  · have q := r.cell i c v e1 e2
    have own : ∀ {p' d}, v = some (.ref p') → c.held = some d → OwnAt K F Rv H p' d → OwnAt K F (L2.upd Rv p o) H p' d := fun {p' d} hv hh w =>
      ⟨w.nF, by rw [upd_ne (fun z => lo i c d e1 hh (by subst z; subst hv; exact e2))]; exact w.nR, w.at_⟩
    cases c with
    | no => trivial
    | fro d => exact q
    | own d => obtain ⟨p', e3, w⟩ := q; exact ⟨p', e3, own e3 rfl w⟩
    | io d => obtain ⟨p', e3, w⟩ := q; exact ⟨p', e3, own e3 rfl w⟩
def sAsgF (i n : Nat) (sF : SE) (s : SA) (gs : SGs) : SS := fun ρ => (sF ρ).bind fun d ρ1 => (s ρ1).bind fun ds ρ2 => if ds.length + 1 = n ∧ n ≤ 100 then (gOwn i d ρ2).bind fun _ ρ3 => (gs ds ρ3).bind fun _ ρ4 => .ok .nx ρ4 else .stuck
@[simp] theorem ev_asgF (i n : Nat) (sF : SE) (s : SA) (gs : SGs) (ρ : Env) : sAsgF i n sF s gs ρ = (sF ρ).bind fun d ρ1 => (s ρ1).bind fun ds ρ2 => if ds.length + 1 = n ∧ n ≤ 100 then (gOwn i d ρ2).bind fun _ ρ3 => (gs ds ρ3).bind fun _ ρ4 => .ok .nx ρ4 else .stuck := rfl
theorem d_asgF {i n kk k2 : Nat} {tp vp np : Pos} {ts : List Expr} {sF : SE} {gs : SGs} {js : List Nat} (hu : At X W) (hi : X.N[i]? = some x) (hx : Loc X.env.scope x) (hf : DF (GK X ex) X W e sF) (ha : DA (GK X ex) X W es sA) (hg : DGs (GK X ex) X W js ts gs)
    (he : starEach (e :: es) X.env = (false, eval e X.env) :: starEach es X.env := by rfl) (hn : (assignEach (.Name x np :: ts) X.env).length = n := by rfl) (hst : (assignEach (.Name x np :: ts) X.env).findIdx? (·.1) = none := by rfl)
    (ht : (assignEach (.Name x np :: ts) X.env).map (·.2) = assign (.Name x np) X.env :: (assignEach ts X.env).map (·.2) := by rfl) (hff : X.fn x = true ∨ X.env.scope.names.lookup x = some .local := by first | exact .inl rfl | exact .inr rfl | assumption)
    (hs : swapsWithSole [.Tuple (.Name x np :: ts) kk tp] (.Tuple (e :: es) k2 vp) pos.line X.env = pure false := by rfl) (hw : swappedStores [.Tuple (.Name x np :: ts) kk tp] (.Tuple (e :: es) k2 vp) X.env = pure none := by rfl)
    (h1 : (assignEach [.Tuple (.Name x np :: ts) kk tp] X.env).map (·.2) = [assign (.Tuple (.Name x np :: ts) kk tp) X.env] := by rfl) :
    DS (GK X ex) X W (.Assign [.Tuple (.Name x np :: ts) kk tp] (.Tuple (e :: es) k2 vp) pos) (sAsgF i n sF sA gs) :=
  wkS (ps_asg (pe_tupZ (pa_cons hf ha he)) (pg_tup hu.calm (pgs_cons (pg_name hu.nd hi hx hff) hg ht) hn hst) hs hw h1) fun D σ H ⟨ρ, F, Rv, io, rel, q⟩ => by
    rw [ev_asgF] at q
    refine ⟨ρ, F, Rv, io, rel, ?_⟩
    cases e1 : sF ρ with
    | stuck => rw [e1] at q; exact q.elim
    | exc x ρ1 => rw [e1] at q; exact q
    | ok d ρ1 =>
      rw [e1, R.bind_ok] at q
      intro p H1 F1 le1 rel1 ow lo
      obtain ⟨o, ho, oo⟩ := ow.at_
      refine ⟨ρ1, F1, _, io, rel1.keep ho oo ow.nF lo, ?_⟩
      cases e2 : sA ρ1 with
      | stuck => rw [e2] at q; exact q.elim
      | exc x ρ2 => rw [e2] at q; exact fun cls dd σ' H' F' le rel' xr => q cls dd σ' H' F' (le1.trans le) (rel'.resDrop ow.nR).1 xr
      | ok ds ρ2 =>
        rw [e2, R.bind_ok] at q
        intro vs H2 F2 le2 rel2 rs
        obtain ⟨relD, n1, n2, lo2⟩ := rel2.resDrop ow.nR
        by_cases hl : ds.length + 1 = n ∧ n ≤ 100
        case neg => rw [if_neg hl] at q; exact q.elim
        rw [if_pos hl] at q
        have lv := rs.length
        refine ⟨line_pos (by rw [List.length_cons]; omega), fun t ob ht' hod => ⟨t, V.ref p :: vs, rfl, .inl (.inr ⟨ob, upd_same⟩), by rw [List.length_cons]; omega, V.ref p, vs, rfl, ?_⟩⟩
        cases e3 : gOwn i d ρ2 with
        | stuck => rw [e3] at q; exact q.elim
        | exc x ρ3 => unfold gOwn at e3; split at e3 <;> cases e3
        | ok u ρ3 =>
          rw [e3, R.bind_ok] at q
          obtain ⟨hio, rfl⟩ := gOwn_ok e3
          have relT := relD.newH ht' (.frz ob (.tup (V.ref p :: vs)))
          have pt : p ≠ t := fun z => by subst z; rw [n2] at ht'; cases ht'
          have relS := relT.setOwn (i := i) (p := p) (d := d) ⟨n1, ow.nR, o, by rw [upd_ne pt]; exact n2, oo.mono le2⟩ lo2 hio
          show tGs (GK X ex) W js gs vs (σ.set i (some (.ref p))) _ _
          refine ⟨ds, ρ2.set i (.own d), F2, Rv, io, relS, rs, ?_⟩
          cases e4 : gs ds (ρ2.set i (.own d)) with
          | stuck => rw [e4] at q; exact q.elim
          | exc x ρ4 => rw [e4] at q; exact XPost.le q (le1.trans le2)
          | ok u ρ4 => rw [e4] at q; exact fun σ' H' F' le rel' _ => q σ' H' F' ((le1.trans le2).trans le) rel'
end
end Dt
set_option Elab.async false
set_option linter.all false
set_option maxRecDepth 100000
set_option maxHeartbeats 4000000
namespace Dt
open PySem PySem.Spec PyProof.Rows L2 RZ
variable [HW]
section
variable {ex : Exx} {X : Cx} {W : WX} {e o : Expr} {es : List Expr} {x : Str} {p pos : Pos} {sA : SA} {ea : SE}
def dctOf : Option D → Option (List Key × List D)
  | some (.dct ks ds) => some (ks, ds)
  | _ => none
/-- the variable at i is a dict of its own; what is put in is a dict that is data -/
def sDUpd (i : Nat) (s : SE) : SE := fun ρ => match dctOf (held ρ i) with
  | none => .stuck
  | some _ => (s ρ).bind fun d ρ' => match dctOf (held ρ' i), dctOf (some d) with
    | some a, some b => if a.1.length + b.1.length ≤ sizeLine then .ok .non (put ρ' i (.dct (putAll (b.1.zip b.2) a).1 (putAll (b.1.zip b.2) a).2)) else .stuck
    | _, _ => .stuck
@[simp] theorem ev_dupd (i : Nat) (s : SE) (ρ : Env) : sDUpd i s ρ = match dctOf (held ρ i) with
  | none => .stuck
  | some _ => (s ρ).bind fun d ρ' => match dctOf (held ρ' i), dctOf (some d) with
    | some a, some b => if a.1.length + b.1.length ≤ sizeLine then .ok .non (put ρ' i (.dct (putAll (b.1.zip b.2) a).1 (putAll (b.1.zip b.2) a).2)) else .stuck
    | _, _ => .stuck := rfl
@[simp] theorem dctOf_dct (ks : List Key) (ds : List D) : dctOf (some (.dct ks ds)) = some (ks, ds) := rfl
def strsOf : List D → Option (List Str)
  | [] => some []
  | .str z :: ds => (strsOf ds).map fun r => z :: r
  | _ => none
def zipT : List D → Option (List D)
  | [.tup xs, .tup ys] => some (pairUp xs ys)
  | _ => none
def iZipT (s : SA) : SA := fun ρ => (s ρ).bind fun ds ρ' => ofO (zipT ds) ρ'
@[simp] theorem ev_iZipT (s : SA) (ρ : Env) : iZipT s ρ = (s ρ).bind fun ds ρ' => ofO (zipT ds) ρ' := rfl
end
end Dt
set_option Elab.async false
set_option linter.all false
set_option maxRecDepth 100000
set_option maxHeartbeats 4000000
namespace Dt
open PySem PySem.Spec PyProof.Rows L2
variable [HW]
theorem NestedAll.of {h : Heap} {ks : List NestedKey} {us : List Value} (r : NestedAll h ks us) : NestedAll h ks us.toArray.toList := by simpa using r
section
variable {X : Cx} {pins : List (Addr × Obj)} {σ : L2.St} {H F : Hp} {s : Shared}
/-- what a dict holds at a key -/
def ndLook : List D → List D → NestedKey → Option D
  | k' :: ks, d :: ds, k => if nkey k' = some k then some d else ndLook ks ds k
  | _, _, _ => none
def ndPut (ks ds : List D) (kd : D) (k : NestedKey) (z : D) : List D × List D :=
  if (ndLook ks ds k).isSome = true then (ks, List.zipWith (fun k' d => if nkey k' = some k then z else d) ks ds) else (ks ++ [kd], ds ++ [z])
/-- a dict of the data stands at p -/
def NdAt (K : PySem.W.Frag) (F H : Hp) (p : Addr) (ks ds : List D) : Prop := ∃ ob xs vs, Rd H p (AtO p ob) ∧ NdC p ob xs ks vs ∧ Rps K F (xs.map fun x => .ref x.2.1) ks ∧ Rps K F vs ds
theorem Vw.nd {K : PySem.W.Frag} (fh : FLe F H) {v : V} {ks ds : List D} (h : Vw K F H v (.nd ks ds)) : ∃ p, v = .ref p ∧ NdAt K F H p ks ds := by
  rcases h with h | ⟨p, o, e, h1, ob, xs, vs, rfl, c, r1, r2⟩
  · cases h with
    | nd t c r1 r2 => exact ⟨_, rfl, _, _, _, .inr ⟨_, fh _ _ t⟩, c, r1, r2⟩
  · exact ⟨p, e, ob, xs, vs, .inl h1, c, r1, r2⟩
end
end Dt
set_option Elab.async false
set_option linter.all false
set_option maxRecDepth 100000
set_option maxHeartbeats 4000000
namespace Dt
open PySem PySem.Spec PyProof.Rows L2
variable [HW]
section
variable {ex : Exx} {X : Cx} {W : WX} {a b c e o tg : Expr} {es : List Expr} {pos p : Pos} {sa sb sc : SO} {ea eb : SE} {sB : SB} {sA : SA} {x : Str} {id : String} {G : Gx}
/-- d[k] = v -/
def putN (d i z : D) : Option D := match d with
  | .nd ks ds => (nkey i).bind fun k => if ks.length ≤ sizeLine then some (.nd (ndPut ks ds i k z).1 (ndPut ks ds i k z).2) else none
  | _ => none
def gPutN (i : Nat) (sk : SO) : SG := fun z ρ => match held ρ i with
  | none => .stuck
  | some _ => (sk ρ).bind fun o ρ' => match held ρ' i, o.get ρ' with
    | some d, some k => match putN d k z with
      | some d' => .ok () (put ρ' i d')
      | none => .stuck
    | _, _ => .stuck
@[simp] theorem ev_gPutN (i : Nat) (sk : SO) (z : D) (ρ : Env) : gPutN i sk z ρ = match held ρ i with
  | none => .stuck
  | some _ => (sk ρ).bind fun o ρ' => match held ρ' i, o.get ρ' with
    | some d, some k => match putN d k z with
      | some d' => .ok () (put ρ' i d')
      | none => .stuck
    | _, _ => .stuck := rfl
def keysN : D → Option (List D)
  | .nd ks _ => some ks
  | _ => none
def iNd (s : SE) : SA := fun ρ => (s ρ).bind fun d ρ' => ofO (keysN d) ρ'
@[simp] theorem ev_iNd (s : SE) (ρ : Env) : iNd s ρ = (s ρ).bind fun d ρ' => ofO (keysN d) ρ' := rfl
end
end Dt
set_option Elab.async false
set_option linter.all false
set_option maxRecDepth 100000
set_option maxHeartbeats 4000000
namespace Dt
open PySem PySem.Spec PyProof.Rows L2
variable [HW]
/-- a tuple (true) or a list (false) -/
def SqK (K : PySem.W.Frag) : Bool → Hp → Addr → List V → Prop
  | true => SqT K
  | false => SqL K
def ItKd : Bool → Heap → Addr → Addr → Nat → Prop
  | true => fun h it a i => h.IsTupleIter it a i
  | false => fun h it a i => h.IsListIter it a i
def IsSq : Bool → Heap → Addr → Array Value → Prop
  | true => fun h a items => h.IsTuple a items
  | false => fun h a items => h.IsList a items
def itObj : Bool → Addr → Obj
  | true => fun a => { cls := .type "tuple_iterator", data := .fields #[.ref a, .int 0 0] }
  | false => fun a => { cls := .type "list_iterator", data := .fields #[.ref a, .int 0 0] }
theorem draws_sq {prog : Program} {w : World} {A : Around} (k : Bool) (hh : A.handled = none) (it a : Addr) (hne : a ≠ it) (items : Array Value) :
    Draws prog w A it [it, a] items.size (fun i v => items[i]? = some v) (fun i h => ItKd k h it a i ∧ IsSq k h a items) := by
  cases k
  · exact Draws.list hh it a hne items
  · exact Draws.tuple hh it a hne items
theorem begins_sq (k : Bool) (a : Addr) (items : Array Value) : Begins (.ref a) (itObj k a) fun h => IsSq k h a items := by
  cases k
  · exact begins_list a items
  · exact begins_tuple a items
theorem itKd_new {k : Bool} {h : Heap} {it a : Addr} (e : h.get? it = some (itObj k a)) : ItKd k h it a 0 := by
  cases k
  · exact ⟨_, e, rfl, rfl⟩
  · exact ⟨_, e, rfl, rfl⟩
theorem itKd_obj {k : Bool} {h : Heap} {it a : Addr} {i : Nat} (e : ItKd k h it a i) : ∃ o, h.get? it = some o ∧ ∀ v, o.data ≠ .cell v := by
  cases k
  · obtain ⟨o, e1, _, d⟩ := e
    exact ⟨o, e1, fun v q => by rw [d] at q; cases q⟩
  · obtain ⟨o, e1, _, d⟩ := e
    exact ⟨o, e1, fun v q => by rw [d] at q; cases q⟩
theorem itKd_at {k : Bool} {h h' : Heap} {it a : Addr} {i : Nat} (e : ItKd k h it a i) (q : ∀ o, h.get? it = some o → h'.get? it = some o) : ItKd k h' it a i := by
  cases k
  · exact Heap.IsListIter.at e q
  · exact Heap.IsTupleIter.at e q
theorem sq_get {X : Cx} {pins : List (Addr × Obj)} {σ : L2.St} {H : Hp} {s : Shared} {k : Bool} {a : Addr} {xs : List V} (I : Inv X pins σ H s) (h : SqK X.K k H a xs) : ∃ its : List Value, Vals xs its ∧ IsSq k s.heap a its.toArray ∧ a < s.heap.objs.size := by
  cases k
  · obtain ⟨its, rv, p, _⟩ := I.list h
    exact ⟨its, rv, p.isList, p.lt⟩
  · obtain ⟨its, rv, p, _⟩ := I.tuple h
    obtain ⟨o, ho, _⟩ := id p
    exact ⟨its, rv, (show s.heap.IsTuple a its.toArray from p), Heap.lt_size ho⟩
theorem sq_inj {X : Cx} {pins : List (Addr × Obj)} {σ : L2.St} {H : Hp} {s : Shared} {k : Bool} {a : Addr} {xs ys : List V} (I : Inv X pins σ H s) (h : SqK X.K k H a xs) (h' : SqK X.K k H a ys) : xs = ys := by
  cases k
  · exact I.list_inj h h'
  · exact I.tuple_inj h h'
/-- one turn of an iterator that hands out its own tuple -/
theorem turn_item {X : Cx} {elts : List Expr} {kk : Nat} {tpos : Pos} {it : Addr} {fp fpw wr : List Addr} {n i : Nat} {Pt : Nat → Array Value → Prop} {St : Nat → Heap → Prop} {Mid : Nat → Addr → Heap → Prop} {pins : List (Addr × Obj)} {s : Shared} {σ : L2.St} {H : Hp} {E : Value → Shared → Prop} {Y : V → Hp → Prop} {tn : Heap → Prop}
    (T : WalksT X.prog X.w X.A it fpw wr n Pt St Mid) (I : Inv X pins σ H s) (hf : ∀ b ∈ fp, FpOk X pins H b) (hi : i < n) (st : St i s.heap) (hw : ∀ b ∈ wr, b ∈ fp) (old : ∀ b ∈ fp, b < s.heap.objs.size)
    (hv : ∀ vals, Pt i vals → ∃ xs : List V, Vals xs vals.toList ∧ xs.length ≤ sizeLine ∧ ∀ T, H T = none → Y (.ref T) (upd H T (.tup xs))) (ht : ∀ h', St (i + 1) h' → tn h') :
    wpAny (model X.prog X.w) X.A (pyNext (.ref it)) (fun r s1 => ∃ u, r = some u ∧
      wpAny (model X.prog X.w) X.A (letOwnedTupleGo (.Tuple elts kk tpos) (.ref it) u) (fun _ s2 => ∃ x H', Inv X pins σ H' s2 ∧ RelV x u ∧ Y x H' ∧ tn s2.heap ∧ ∀ b ∈ fp, H' b = none) E s1) E s := by
  refine T.item i s _ E hi st fun Ta vals h' tk hP hT hI hM hk => ⟨_, rfl, T.go elts kk tpos i Ta { s with heap := h', toks := tk } _ E hM fun h'' st2 hk2 => ?_⟩
  obtain ⟨xs, rv, hl, hy⟩ := hv vals hP
  have nT : H Ta = none := I.hok.fresh hT
  obtain ⟨o, e1, e2, m, e3⟩ := hI
  have nw : Ta ∉ wr := T.apart i Ta h' hM
  have new : ObjOk X.prog X.w (upd H Ta (.tup xs)) h'' Ta (.tup xs) := ⟨hl, vals.toList, rv, o, hk2 Ta o nw e1, e2, m, by rw [Array.toArray_toList]; exact e3⟩
  exact ⟨.ref Ta, _, I.turnedNew (t' := tk) (ch := fp) (fun b o hb q => hk2 b o (fun z => hb (hw b z)) (hk b o (fun z => hb (hw b z)) q)) hf hT new, rfl, hy Ta nT, ht h'' st2,
    fun b hb => by rw [upd_ne (Nat.ne_of_lt (Nat.lt_of_lt_of_le (old b hb) hT))]; exact (hf b hb).1⟩
theorem turn_done {X : Cx} {it : Addr} {fp fpw wr : List Addr} {n : Nat} {Pt : Nat → Array Value → Prop} {St : Nat → Heap → Prop} {Mid : Nat → Addr → Heap → Prop} {pins : List (Addr × Obj)} {s : Shared} {σ : L2.St} {H : Hp} {E : Value → Shared → Prop}
    (T : WalksT X.prog X.w X.A it fpw wr n Pt St Mid) (I : Inv X pins σ H s) (hf : ∀ b ∈ fp, FpOk X pins H b) (st : St n s.heap) (hw : ∀ b ∈ wr, b ∈ fp) : wpAny (model X.prog X.w) X.A (pyNext (.ref it)) (fun r s1 => r = none ∧ Inv X pins σ H s1) E s :=
  T.done s _ E st fun h' tk hk => ⟨rfl, I.turnedL (t' := tk) (ch := fp) (fun b o hb q => hk b o (fun z => hb (hw b z)) q) hf⟩
def Itzz (K : PySem.W.Frag) (k1 k2 : Bool) (a b : Addr) : It :=
  ⟨fun i H => ∃ (xs ys : List V), SqK K k1 H a xs ∧ SqK K k2 H b ys ∧ i < min xs.length ys.length,
    fun i H v H' => ∃ T x y, v = .ref T ∧ H T = none ∧ H' = upd H T (.tup [x, y]) ∧ (∀ xs, SqK K k1 H a xs → xs[i]? = some x) ∧ ∀ ys, SqK K k2 H b ys → ys[i]? = some y,
    fun i H => ∃ xs ys : List V, SqK K k1 H a xs ∧ SqK K k2 H b ys ∧ i = min xs.length ys.length⟩
theorem vals_at {xs : List V} {its : List Value} {i : Nat} {u : Value} (r : Vals xs its) (e : its.toArray[i]? = some u) : ∃ x, xs[i]? = some x ∧ RelV x u := by
  have e : its[i]? = some u := by simpa using e
  have hl := r.length
  have hi : i < its.length := (List.getElem?_eq_some_iff.mp e).1
  obtain ⟨u', e1, rr⟩ := r.get (x := xs[i]'(by omega)) (i := i) (by simp [show i < xs.length by omega])
  rw [e] at e1
  cases e1
  exact ⟨_, by simp [show i < xs.length by omega], rr⟩
theorem turn_zz {P : Program} {w : World} {K : PySem.W.Frag} {elts : List Expr} {kk : Nat} {tpos : Pos} {a b N : Addr} (k1 k2 : Bool) (ha : a < N) (hb : b < N) :
    Turn P w K (.Tuple elts kk tpos) (Itzz K k1 k2 a b) [N + 4, N + 2, N + 3, N, N + 1] (N + 4) (fun i h => IsZip h (N + 4) (N + 2) (N + 3) .none ∧ IsTupOf2 h (N + 2) (.ref N) (.ref (N + 1)) ∧ (∃ x y, IsTupOf2 h (N + 3) x y) ∧ ItKd k1 h N a i ∧ ItKd k2 h (N + 1) b i) := by
  have S : ZipSep2 (N + 4) (N + 2) (N + 3) N (N + 1) [N, a] [N + 1, b] := zip_sep2 (fun c hc => by rw [List.mem_singleton.mp hc]; exact ha) fun c hc => by rw [List.mem_singleton.mp hc]; exact hb
  have nea : a ≠ N := Nat.ne_of_lt ha
  have neb : b ≠ N + 1 := Nat.ne_of_lt (Nat.lt_succ_of_lt hb)
  have hw : ∀ c ∈ [N + 4, N + 3, N, N + 1], c ∈ [N + 4, N + 2, N + 3, N, N + 1] := fun c hc => by
    have : c = N + 4 ∨ c = N + 3 ∨ c = N ∨ c = N + 1 := by simpa using hc
    rcases this with rfl | rfl | rfl | rfl <;> simp
  have ob : ∀ i h, (IsZip h (N + 4) (N + 2) (N + 3) .none ∧ IsTupOf2 h (N + 2) (.ref N) (.ref (N + 1)) ∧ (∃ x y, IsTupOf2 h (N + 3) x y) ∧ ItKd k1 h N a i ∧ ItKd k2 h (N + 1) b i) → ∀ c ∈ [N + 4, N + 2, N + 3, N, N + 1], ∃ o, h.get? c = some o ∧ ∀ v, o.data ≠ .cell v := fun i h st c hc => by
    obtain ⟨hz, hT, ⟨x, y, hO⟩, h1, h2⟩ := st
    have : c = N + 4 ∨ c = N + 2 ∨ c = N + 3 ∨ c = N ∨ c = N + 1 := by simpa using hc
    rcases this with rfl | rfl | rfl | rfl | rfl
    · exact ⟨_, hz, fun v q => nomatch q⟩
    · exact ⟨_, hT, fun v q => nomatch q⟩
    · exact ⟨_, hO, fun v q => nomatch q⟩
    · exact itKd_obj h1
    · exact itKd_obj h2
  refine ⟨by simp, ob, fun i h h' st k => ?_, ?_, ?_, fun A i s Q E st h => wpAny_pyIter_zip st.1 h⟩
  · obtain ⟨hz, hT, ⟨x, y, hO⟩, h1, h2⟩ := st
    exact ⟨k _ (by simp) _ hz, k _ (by simp) _ hT, ⟨x, y, k _ (by simp) _ hO⟩, itKd_at h1 fun o q => k N (by simp) o q, itKd_at h2 fun o q => k (N + 1) (by simp) o q⟩
  · intro X hP hW hK hc i pins s σ H E I hf st hg; subst hP hW hK
    obtain ⟨xs, ys, hx, hy, hi⟩ := hg
    obtain ⟨its, rv, p1, _⟩ := sq_get I hx
    obtain ⟨its2, rv2, p2, _⟩ := sq_get I hy
    have l1 := rv.length
    have l2 := rv2.length
    have D := WalksT.zipD2 S (draws_sq (prog := X.prog) (w := X.w) (A := X.A.in1) k1 (I.ok.hd hc) N a nea its.toArray) (draws_sq (A := X.A.in1) k2 (I.ok.hd hc) (N + 1) b neb its2.toArray)
    have old : ∀ c ∈ [N + 4, N + 2, N + 3, N, N + 1], c < s.heap.objs.size := fun c hc => let ⟨o, e, _⟩ := ob i _ st c hc; Heap.lt_size e
    obtain ⟨hz, hT, hO, h1, h2⟩ := st
    refine turn_item (Y := (Itzz X.K k1 k2 a b).yld i H) (tn := fun h => IsZip h (N + 4) (N + 2) (N + 3) .none ∧ IsTupOf2 h (N + 2) (.ref N) (.ref (N + 1)) ∧ (∃ x y, IsTupOf2 h (N + 3) x y) ∧ ItKd k1 h N a (i + 1) ∧ ItKd k2 h (N + 1) b (i + 1)) D I hf (by simp; omega) ⟨hz, hT, hO, ⟨h1, p1⟩, ⟨h2, p2⟩⟩ hw old (fun vals hv => ?_) fun h' st' => ⟨st'.1, st'.2.1, st'.2.2.1, st'.2.2.2.1.1, st'.2.2.2.2.1⟩
    obtain ⟨u1, u2, e1, e2, rfl⟩ := hv
    obtain ⟨x, ex, rx⟩ := vals_at rv e1
    obtain ⟨y, ey, ry⟩ := vals_at rv2 e2
    exact ⟨[x, y], .cons rx (.cons ry .nil), by show 2 ≤ sizeLine; decide, fun T hT => ⟨T, x, y, rfl, hT, rfl, fun l hl => by rw [sq_inj I hl hx]; exact ex, fun l hl => by rw [sq_inj I hl hy]; exact ey⟩⟩
  · intro X hP hW hK hc i pins s σ H E I hf st hg; subst hP hW hK
    obtain ⟨xs, ys, hx, hy, hi⟩ := hg
    obtain ⟨its, rv, p1, _⟩ := sq_get I hx
    obtain ⟨its2, rv2, p2, _⟩ := sq_get I hy
    have l1 := rv.length
    have l2 := rv2.length
    have D := WalksT.zipD2 S (draws_sq (prog := X.prog) (w := X.w) (A := X.A.in1) k1 (I.ok.hd hc) N a nea its.toArray) (draws_sq (A := X.A.in1) k2 (I.ok.hd hc) (N + 1) b neb its2.toArray)
    obtain ⟨hz, hT, hO, h1, h2⟩ := st
    have e : i = min its.toArray.size its2.toArray.size := by simp; omega
    exact turn_done D I hf ⟨hz, hT, hO, ⟨by rw [← e]; exact h1, p1⟩, ⟨by rw [← e]; exact h2, p2⟩⟩ hw
/-- the parts of a list or a tuple -/
def seqD : D → Option (List D)
  | .lst xs => some xs
  | .tup xs => some xs
  | .arg xs => some xs
  | _ => none
theorem FLe.sqK {K : PySem.W.Frag} {F G : Hp} (h : FLe F G) {k : Bool} {a : Addr} {xs : List V} (r : SqK K k F a xs) : SqK K k G a xs := by
  cases k
  · exact h.sqL r
  · exact h.sqT r
theorem iter_zz {K : PySem.W.Frag} {F : Hp} {k1 k2 : Bool} {a b : Addr} {vs ws : List V} {xs ys : List D} (ha : SqK K k1 F a vs) (hb : SqK K k2 F b ws) (rx : Rps K F vs xs) (ry : Rps K F ws ys) : IterOk K (Itzz K k1 k2 a b) F (pairUp xs ys) := by
  have at1 : ∀ {F1 H : Hp}, FLe F F1 → FLe F1 H → SqK K k1 H a vs := fun h1 h2 => h2.sqK (h1.sqK ha)
  have at2 : ∀ {F1 H : Hp}, FLe F F1 → FLe F1 H → SqK K k2 H b ws := fun h1 h2 => h2.sqK (h1.sqK hb)
  have lx := rx.length
  have ly := ry.length
  have lp : (pairUp xs ys).length = min xs.length ys.length := by unfold pairUp; rw [List.length_zipWith]
  refine ⟨fun i F1 H h1 h2 hi => ⟨vs, ws, at1 h1 h2, at2 h1 h2, by rw [lx, ly, ← lp]; exact hi⟩, fun F1 H h1 h2 => ⟨vs, ws, at1 h1 h2, at2 h1 h2, by rw [lx, ly, ← lp]⟩, fun i F1 H H' x d h1 h2 e y => ?_⟩
  obtain ⟨T, v, w, rfl, hT, rfl, g1, g2⟩ := y
  unfold pairUp at e
  rw [List.getElem?_zipWith] at e
  cases ex : xs[i]? with
  | none => rw [ex] at e; cases e
  | some dx =>
    cases ey : ys[i]? with
    | none => rw [ex, ey] at e; cases e
    | some dy =>
      rw [ex, ey] at e
      cases e
      obtain ⟨v', e1, r1⟩ := rx.get ex
      obtain ⟨w', e2, r2⟩ := ry.get ey
      have e3 := g1 vs (at1 h1 h2)
      have e4 := g2 ws (at2 h1 h2)
      rw [e1] at e3; cases e3
      rw [e2] at e4; cases e4
      have n := New.obj h2 hT (.tup [v, w])
      exact ⟨_, n, .arg (.inl (.inl upd_same)) (.cons (r1.mono (h1.trans n.f)) (.cons (r2.mono (h1.trans n.f)) .nil))⟩
def zipG : List D → Option (List D)
  | [x, y] => (seqD x).bind fun xs => (seqD y).map fun ys => pairUp xs ys
  | _ => none
def iZipX (s : SA) : SA := fun ρ => (s ρ).bind fun ds ρ' => ofO (zipG ds) ρ'
@[simp] theorem ev_iZipX (s : SA) (ρ : Env) : iZipX s ρ = (s ρ).bind fun ds ρ' => ofO (zipG ds) ρ' := rfl
end Dt
set_option Elab.async false
set_option linter.all false
set_option maxRecDepth 100000
set_option maxHeartbeats 4000000
namespace Dt
open PySem PySem.Spec PyProof.Rows L2
variable [HW]
def numbered : Nat → List D → List D
  | _, [] => []
  | n, d :: ds => .arg [.int (n : Nat), d] :: numbered (n + 1) ds
def enumD : List D → Option (List D)
  | [x] => (seqD x).map (numbered 0)
  | _ => none
def iEnumX (s : SA) : SA := fun ρ => (s ρ).bind fun ds ρ' => ofO (enumD ds) ρ'
@[simp] theorem ev_iEnumX (s : SA) (ρ : Env) : iEnumX s ρ = (s ρ).bind fun ds ρ' => ofO (enumD ds) ρ' := rfl
section
variable {ex : Exx} {X : Cx} {W : WX} {a b c e tg : Expr} {p pos : Pos} {sA : SA} {G : Gx}
def downto (lo : Int) (n : Nat) : List D := (List.range n).map fun i => .int (lo + (i : Nat) * (-1))
def rng3D : List D → Option (List D)
  | [.int i, .int j, .int k] => if k = -1 ∧ -(2 ^ 62) ≤ i ∧ i < 2 ^ 62 ∧ -(2 ^ 62) ≤ j ∧ j < 2 ^ 62 then some (downto i (i - j).toNat) else none
  | _ => none
def iRng3' (s : SA) : SA := fun ρ => (s ρ).bind fun ds ρ' => ofO (rng3D ds) ρ'
@[simp] theorem ev_iRng3 (s : SA) (ρ : Env) : iRng3' s ρ = (s ρ).bind fun ds ρ' => ofO (rng3D ds) ρ' := rfl
def sNew2 (i j : Nat) : SS := fun ρ => (gOwn i (.lst []) ρ).bind fun _ ρ2 => (gOwn j (.lst []) ρ2).bind fun _ ρ3 => .ok .nx ρ3
@[simp] theorem ev_new2 (i j : Nat) (ρ : Env) : sNew2 i j ρ = (gOwn i (.lst []) ρ).bind fun _ ρ2 => (gOwn j (.lst []) ρ2).bind fun _ ρ3 => .ok .nx ρ3 := rfl
end
end Dt
set_option Elab.async false
set_option linter.all false
set_option maxRecDepth 100000
set_option maxHeartbeats 4000000
namespace Dt
open PySem PySem.Spec PyProof.Rows L2
variable [HW]
def veB : List Value := [.type "ValueError", .type "Exception", .type "BaseException", .type "object"]
/-- where the classes lie -/
def exA (K : PySem.W.Frag) (n : String) : Addr := fnA K (Str.ofString n)
/-- the class of that name, as it stands -/
structure ExcK (K : PySem.W.Frag) (mg : Str → Option Value) (n : String) : Prop where
  m : mg (Str.ofString n) = some (.ref (exA K n))
  e : PySem.W.excIn K (exA K n) veB "ValueError.__new__" = true
  k : PySem.W.keepIn K (.ref (exA K n)) = true
  b : PySem.W.subIn K (.ref (exA K n)) (.type "BaseException") = some true
  t : PySem.W.typeIn K (.ref (exA K n)) = some (.type "type")
/-- raise X("m") -/
def sRaise (n : String) : SS := fun ρ => .exc ⟨n, .non⟩ ρ
@[simp] theorem ev_raise (n : String) (ρ : Env) : sRaise n ρ = .exc ⟨n, .non⟩ ρ := rfl
theorem d_raise {T : List (Addr × Str)} {X : Cx} {W : WX} {n : String} {m : Str} {j : Nat} {p p2 pos rpos : Pos} (hu : At X W) (c : ExcK X.K X.mg n) (hg : Gl X (Str.ofString n)) (hd : (Str.ofString n == ("__debug__" : Str)) = false := by decide) :
    DS (GK X ⟨exA X.K, T⟩) X W (.Raise (some (.Call (.Name (Str.ofString n) p) [.Constant (.str m) j p2] [] pos)) none rpos) (sRaise n) :=
  wkS (L2N.ps_raise hu.calm hu.tk (L2N.pmk_own PySem.F.excBase_ValueError c.e c.m c.k (raises_own c.b c.t) hg hd)) fun D σ H ⟨ρ, F, Rv, io, rel, q⟩ => q (.ref (exA X.K n)) none σ H F (FLe.refl F) rel ⟨rfl, rfl⟩
end Dt
set_option Elab.async false
set_option linter.all false
set_option maxRecDepth 100000
set_option maxHeartbeats 4000000
namespace Dt
open PySem PySem.Spec PyProof.Rows L2 HotX
variable [HW]
section
variable {prog : Program} {w : World} {A : Around} {E : Value → Shared → Prop} {s : Shared} {x1 : Addr}
/-- the end of an iteration, raised while x1 is handled -/
theorem stop_hot {α : Type} {Q : α → Shared → Prop} (hot : HotAt A x1 s.heap)
    (h : ∀ h' e, (∀ b o, s.heap.get? b = some o → h'.get? b = some o) → (∃ o, h'.get? e = some o ∧ o.cls = .type "StopIteration") → E (.ref e) { s with heap := h' }) :
    wpAny (model prog w) A (newExc (.type "StopIteration") [] >>= fun e => (raiseNew e : Sem α)) Q E s := by
  obtain ⟨hh, o1, vs1, h1, d1, c1⟩ := hot
  have up : ∀ {h : Heap} (o o' : Obj) (b : Addr) (ob : Obj), h.get? b = some ob → ((h.push o).push o').get? b = some ob := fun o o' b ob e => Heap.get?_push_of_some _ (Heap.get?_push_of_some _ e)
  refine wpAny_bind ?_; simp only [newExc, newTuple]
  refine wpAny_bind (wpAny_newObj_type (wpAny_bind (m := firstArgMember _ _) (wpAny_of_eq (a := Value.none) (by first | rfl | (simp only [firstArgMember]; rfl)) (wpAny_newObj_type ?_ (by size_fits)))) (by size_fits))
  refine raiseNew_hot ⟨hh, o1, vs1, up _ _ _ _ h1, d1, c1⟩ (Nat.ne_of_lt (Heap.lt_size (Heap.get?_push_of_some _ h1))) (Heap.get?_push_size _ rfl) rfl (by first | (simp; done) | (simp; omega) | (simp only [Array.size_append]; simp; omega)) (h _ _ (fun b o e => ?_) ⟨_, Heap.get?_update_self _ (Heap.get?_push_size _ rfl) rfl, rfl⟩)
  exact (Heap.get?_update_other _ _ (Nat.ne_of_gt (Heap.lt_size (Heap.get?_push_of_some _ e)))).trans (up _ _ _ _ e)
theorem HotAt.keep {h h' : Heap} (c : HotAt A x1 h) (k : ∀ o, h.get? x1 = some o → h'.get? x1 = some o) : HotAt A x1 h' := let ⟨a, o, vs, e, d⟩ := c; ⟨a, o, vs, k o e, d⟩
theorem nextOf_list_hot {it l : Addr} {i : Nat} {items : Array Value} {Q : Value → Shared → Prop} (hot : HotAt A x1 s.heap) (hne : x1 ≠ it) (hit : s.heap.IsListIter it l i) (hl : s.heap.IsList l items) (hx : items[i]? = none)
    (hE : ∀ h' e, Heap.ExtBut it s.heap h' → (∃ o, h'.get? e = some o ∧ o.cls = .type "StopIteration") → E (.ref e) { s with heap := h' }) : wpAny (model prog w) A (Builtin.SmallTypes.nextOf (.ref it)) Q E s := by
  obtain ⟨o, ho, hc, hd⟩ := id hit; obtain ⟨ol, hol, _, nl, hdl⟩ := hl; unfold Builtin.SmallTypes.nextOf
  refine wpAny_bind (wpAny_callSpecial?_slot (name := Str.ofString "__next__") hit.typeIs slot_listiter_next (wpAny_call_entry slot_listiter_next hit.typeIs entry_listiter_next ?_ (args_listiter_next _)))
  show wpAny _ _ (field (.ref it) 0 >>= _) _ _ s; refine wpAny_bind (wpAny_field ho hd (x := .ref l) rfl ?_); show wpAny _ _ (if (Value.ref l == Value.none) = true then _ else _) _ _ s
  rw [if_neg (show ¬ ((Value.ref l == Value.none) = true) from Bool.false_ne_true)]; show wpAny _ _ (field (.ref it) 1 >>= _) _ _ s; refine wpAny_bind (wpAny_field ho hd (x := .int i 0) rfl ?_)
  show wpAny _ _ (seqItems? (.ref l) >>= _) _ _ s; refine wpAny_bind (wpAny_seqItems hol hdl ?_); simp only [Int.toNat_natCast, hx]
  refine wpAny_bind (wpAny_rule (wpAny_bind (wpAny_setField ho hd (by simp) ?_)))
  refine stop_hot (HotAt.keep hot fun o e => (Heap.get?_update_other _ _ hne.symm).trans e) fun h' e k st => hE h' e (fun b o hb e => k b o ((Heap.get?_update_other _ _ (Ne.symm hb)).trans e)) st
theorem draws_list_hot (hh : A.handled = some (.ref x1)) (it l : Addr) (hne : l ≠ it) (hx : x1 ≠ it) (items : Array Value) : Draws prog w A it [it, l, x1] items.size (fun i v => items[i]? = some v) (fun i h => (h.IsListIter it l i ∧ h.IsList l items) ∧ HotAt A x1 h) where
  live := fun _ _ st => let ⟨o, ho, _⟩ := st.1.1; ⟨o, ho⟩
  frame := fun _ _ _ st hk => ⟨⟨st.1.1.at fun o e => hk it (by simp) o e, st.1.2.at fun o e => hk l (by simp) o e⟩, HotAt.keep st.2 fun o e => hk x1 (by simp) o e⟩
  item := fun i s Q E hi st hQ => wpAny_nextOf_list_item st.1.1 st.1.2 (x := items[i]) (by simp [hi]) fun h' hit' hs' => hQ _ h' s.toks (by simp [hi]) ⟨⟨hit', st.1.2.extBut hs'.extBut hne⟩, HotAt.keep st.2 fun o e => hs'.extBut _ _ hx e⟩ hs'
  done := fun s Q E st hE => nextOf_list_hot st.2 hx st.1.1 st.1.2 (by simp) hE
/-- a tuple unpacked -/
theorem next_tuple_hot {it t : Addr} {i : Nat} {items : Array Value} {Q : Option Value → Shared → Prop} (hot : HotAt A x1 s.heap) (hne : x1 ≠ it) (hit : IsTupIter s.heap it t i) (ht : IsTup s.heap t items) (hx : items[i]? = none)
    (hQ : ∀ h', Heap.ExtBut it s.heap h' → Q none { s with heap := h' }) : wpAny (model prog w) A (pyNext (.ref it)) Q E s := by
  obtain ⟨o, ho, hc, hd⟩ := id hit; obtain ⟨ol, hol, _, nl, hdl⟩ := ht; unfold pyNext
  refine wpAny_bind (wpAny_attempt (wpAny_callSpecial?_slot (name := Str.ofString "__next__") hit.typeIs slot_tupleiter_next (wpAny_call_entry slot_tupleiter_next hit.typeIs entry_tupleiter_next ?_ (args_tupleiter_next _))))
  show wpAny _ _ (field (.ref it) 0 >>= _) _ _ s; refine wpAny_bind (wpAny_field ho hd (x := .ref t) rfl ?_); show wpAny _ _ (if (Value.ref t == Value.none) = true then _ else _) _ _ s
  rw [if_neg (show ¬ ((Value.ref t == Value.none) = true) from Bool.false_ne_true)]; show wpAny _ _ (field (.ref it) 1 >>= _) _ _ s; refine wpAny_bind (wpAny_field ho hd (x := .int i 0) rfl ?_)
  show wpAny _ _ (seqItems? (.ref t) >>= _) _ _ s; refine wpAny_bind (wpAny_seqItems hol hdl ?_); simp only [Int.toNat_natCast, hx]
  refine wpAny_bind (wpAny_rule (wpAny_bind (wpAny_setField ho hd (by simp) ?_)))
  refine stop_hot (HotAt.keep hot fun o e => (Heap.get?_update_other _ _ hne.symm).trans e) fun h' e k ⟨oe, st, sc⟩ => wpAny_bind (wpAny_isInstance (T := "StopIteration") (b := true) ⟨oe, st, sc⟩ isSubtype_stop (wpAny_pure (hQ h' fun b o hb e => k b o ((Heap.get?_update_other _ _ (Ne.symm hb)).trans e))))
theorem unpackItems_hot {t : Addr} {items : Array Value} {Q : List Value → Shared → Prop} (hot : HotAt A x1 s.heap) (ht : IsTup s.heap t items)
    (hQ : ∀ h', Heap.ExtBut s.heap.objs.size s.heap h' → Q items.toList { s with heap := h' }) : wpAny (model prog w) A (unpackItems (.ref t) items.size none) Q E s := by
  have hlt : t ≠ s.heap.objs.size := let ⟨o, ho, _⟩ := ht; Nat.ne_of_lt (Heap.lt_size ho)
  have hx : x1 ≠ s.heap.objs.size := let ⟨_, o, _, ho, _⟩ := hot; Nat.ne_of_lt (Heap.lt_size ho)
  unfold unpackItems; refine wpAny_bind ?_; unfold notIterableAtAll
  refine wpAny_bind (wpAny_specialOf ht.typeIs slot_tuple_iter.lookup (wpAny_pure ?_)); simp only [Bool.false_eq_true, if_false]
  refine wpAny_bind (wpAny_holding (iter_tuple ht (wpAny_bind (wpAny_holding (draw_tuple hlt items.size 0 _ _ ⟨_, Heap.get?_push_size _ rfl, rfl, rfl⟩ (ht.push _) (by omega) fun h₁ hit₁ hs₁ => ?_)))))
  have hall : List.take items.size (List.drop 0 items.toList) = items.toList := (by rw [List.drop_zero]; exact List.take_of_length_le (by simp))
  rw [hall, if_neg (by simp)]
  refine wpAny_bind (wpAny_holding (next_tuple_hot (HotAt.keep hot fun o e => hs₁.extBut _ _ hx (Heap.get?_push_of_some _ e)) hx hit₁ ((ht.push _).extBut hs₁.extBut hlt) (by simp) fun h₂ he₂ => ?_))
  simp only [Option.isSome_none, Bool.false_eq_true, if_false]
  exact wpAny_pure (hQ h₂ fun b o hb e => he₂ b o hb (hs₁.extBut b o hb (Heap.get?_push_of_some _ e)))
theorem assign_tuple_hot {env : PySem.Env} {elts : List Expr} {k} {pos : Pos} {t : Addr} {items : Array Value} {Q : Unit → Shared → Prop} (hot : HotAt A x1 s.heap) (ht : IsTup s.heap t items) (hn : (assignEach elts env).length = items.size) (hstar : (assignEach elts env).findIdx? (·.1) = none)
    (h : ∀ h', Heap.ExtBut s.heap.objs.size s.heap h' → wpAny (model prog w) A (assignInOrder ((assignEach elts env).map (·.2)) items.toList) Q E { s with heap := h' }) : wpAny (model prog w) A (assign (.Tuple elts k pos) env (.ref t)) Q E s := by
  rw [assign_Tuple]; refine wpAny_bind (wpAny_standAt ?_); unfold unpack; rw [hn, hstar]; exact wpAny_bind (wpAny_holding (unpackItems_hot hot ht h))
end
end Dt
set_option Elab.async false
set_option linter.all false
set_option maxRecDepth 100000
set_option maxHeartbeats 4000000
namespace Dt
open PySem PySem.Spec PyProof.Rows L2 HotX
variable [HW]
/-- each state of the context bears the exception x1, which is handled -/
def HotB (X : Cx) (x1 : Addr) : Prop := X.A.handled = some (.ref x1) ∧ ∀ pins σ H s, Inv X pins σ H s → HotAt X.A x1 s.heap
theorem HotB.of {X : Cx} {p : Addr × Obj} (h : L2H.Hot1 X.A p) (hp : p ∈ X.pn) : HotB X p.1 := ⟨h.1, fun pins σ H s I => let ⟨v1, e1, c1⟩ := h.2; ⟨h.1, p.2, v1, (I.pin p (List.mem_append_left _ hp)).1, e1, c1⟩⟩
/-- a walk while x1 is handled -/
structure TurnB (x1 : Addr) (P : Program) (w : World) (K : PySem.W.Frag) (tg : Expr) (J : It) (fp : List Addr) (it : Addr) (tn : Nat → Heap → Prop) : Prop where
  ob : ∀ i h, tn i h → ∀ b ∈ fp, ∃ o, h.get? b = some o ∧ ∀ v, o.data ≠ .cell v
  kp : ∀ i h h', tn i h → (∀ b ∈ fp, ∀ o, h.get? b = some o → h'.get? b = some o) → tn i h'
  itm : ∀ (X : Cx), X.prog = P ∧ X.w = w ∧ X.K = K → HotB X x1 → ∀ (i : Nat) (pins : List (Addr × Obj)) (s : Shared) (σ : L2.St) (H : Hp) (E : Value → Shared → Prop), Inv X pins σ H s → (∀ b ∈ fp, FpOk X pins H b) → tn i s.heap → J.go i H →
    wpAny (model P w) X.A (pyNext (.ref it)) (fun r s1 => ∃ u, r = some u ∧ wpAny (model P w) X.A (letOwnedTupleGo tg (.ref it) u) (fun _ s2 => ∃ x H', Inv X pins σ H' s2 ∧ RelV x u ∧ J.yld i H x H' ∧ tn (i + 1) s2.heap ∧ ∀ b ∈ fp, H' b = none) E s1) E s
  dn : ∀ (X : Cx), X.prog = P ∧ X.w = w ∧ X.K = K → HotB X x1 → ∀ (i : Nat) (pins : List (Addr × Obj)) (s : Shared) (σ : L2.St) (H : Hp) (E : Value → Shared → Prop), Inv X pins σ H s → (∀ b ∈ fp, FpOk X pins H b) → tn i s.heap → J.stop i H →
    wpAny (model P w) X.A (pyNext (.ref it)) (fun r s1 => r = none ∧ Inv X pins σ H s1) E s
  sf : ∀ (A : Around) (i : Nat) (s : Shared) (Q : Value → Shared → Prop) (E : Value → Shared → Prop), tn i s.heap → Q (.ref it) s → wpAny (model P w) A (pyIter (.ref it)) Q E s
theorem turn_zzB {P : Program} {w : World} {K : PySem.W.Frag} {elts : List Expr} {kk : Nat} {tpos : Pos} {a b N x1 : Addr} (ha : a < N) (hb : b < N) (hx : x1 < N) :
    TurnB x1 P w K (.Tuple elts kk tpos) (Itzz K false false a b) [N + 4, N + 2, N + 3, N, N + 1] (N + 4) (fun i h => IsZip h (N + 4) (N + 2) (N + 3) .none ∧ IsTupOf2 h (N + 2) (.ref N) (.ref (N + 1)) ∧ (∃ x y, IsTupOf2 h (N + 3) x y) ∧ ItKd false h N a i ∧ ItKd false h (N + 1) b i) := by
  have two : ∀ {c d : Addr}, d < N → ∀ z ∈ [d, x1], z < N := fun {c d} h z hz => by
    have : z = d ∨ z = x1 := by simpa using hz
    rcases this with rfl | rfl
    · exact h
    · exact hx
  have S : ZipSep2 (N + 4) (N + 2) (N + 3) N (N + 1) [N, a, x1] [N + 1, b, x1] := zip_sep2 (two (c := 0) ha) (two (c := 0) hb)
  have nea : a ≠ N := Nat.ne_of_lt ha
  have neb : b ≠ N + 1 := Nat.ne_of_lt (Nat.lt_succ_of_lt hb)
  have nx1 : x1 ≠ N := Nat.ne_of_lt hx
  have nx2 : x1 ≠ N + 1 := Nat.ne_of_lt (Nat.lt_succ_of_lt hx)
  obtain ⟨_, ob, kp, _, _, sf⟩ := turn_zz (P := P) (w := w) (K := K) (elts := elts) (kk := kk) (tpos := tpos) false false ha hb
  have hw : ∀ c ∈ [N + 4, N + 3, N, N + 1], c ∈ [N + 4, N + 2, N + 3, N, N + 1] := fun c hc => by
    have : c = N + 4 ∨ c = N + 3 ∨ c = N ∨ c = N + 1 := by simpa using hc
    rcases this with rfl | rfl | rfl | rfl <;> simp
  refine ⟨ob, kp, ?_, ?_, sf⟩
  · intro X ⟨hP, hW, hK⟩ hot i pins s σ H E I hf st hg; subst hP hW hK
    obtain ⟨xs, ys, hx, hy, hi⟩ := hg
    obtain ⟨its, rv, p1, _⟩ := sq_get I hx
    obtain ⟨its2, rv2, p2, _⟩ := sq_get I hy
    have l1 := rv.length
    have l2 := rv2.length
    have D := WalksT.zipD2 S (draws_list_hot (prog := X.prog) (w := X.w) (A := X.A.in1) hot.1 N a nea nx1 its.toArray) (draws_list_hot (A := X.A.in1) hot.1 (N + 1) b neb nx2 its2.toArray)
    have old : ∀ c ∈ [N + 4, N + 2, N + 3, N, N + 1], c < s.heap.objs.size := fun c hc => let ⟨o, e, _⟩ := ob i _ st c hc; Heap.lt_size e
    obtain ⟨hz, hT, hO, h1, h2⟩ := st
    have hA := hot.2 _ _ _ _ I
    refine turn_item (Y := (Itzz X.K false false a b).yld i H) (tn := fun h => IsZip h (N + 4) (N + 2) (N + 3) .none ∧ IsTupOf2 h (N + 2) (.ref N) (.ref (N + 1)) ∧ (∃ x y, IsTupOf2 h (N + 3) x y) ∧ ItKd false h N a (i + 1) ∧ ItKd false h (N + 1) b (i + 1)) D I hf (by simp; omega) ⟨hz, hT, hO, ⟨⟨h1, p1⟩, hA⟩, ⟨⟨h2, p2⟩, hA⟩⟩ hw old (fun vals hv => ?_) fun h' st' => ⟨st'.1, st'.2.1, st'.2.2.1, st'.2.2.2.1.1.1, st'.2.2.2.2.1.1⟩
    obtain ⟨u1, u2, e1, e2, rfl⟩ := hv
    obtain ⟨x, ex, rx⟩ := vals_at rv e1
    obtain ⟨y, ey, ry⟩ := vals_at rv2 e2
    exact ⟨[x, y], .cons rx (.cons ry .nil), by show 2 ≤ sizeLine; decide, fun T hT => ⟨T, x, y, rfl, hT, rfl, fun l hl => by rw [sq_inj I hl hx]; exact ex, fun l hl => by rw [sq_inj I hl hy]; exact ey⟩⟩
  · intro X ⟨hP, hW, hK⟩ hot i pins s σ H E I hf st hg; subst hP hW hK
    obtain ⟨xs, ys, hx, hy, hi⟩ := hg
    obtain ⟨its, rv, p1, _⟩ := sq_get I hx
    obtain ⟨its2, rv2, p2, _⟩ := sq_get I hy
    have l1 := rv.length
    have l2 := rv2.length
    have D := WalksT.zipD2 S (draws_list_hot (prog := X.prog) (w := X.w) (A := X.A.in1) hot.1 N a nea nx1 its.toArray) (draws_list_hot (A := X.A.in1) hot.1 (N + 1) b neb nx2 its2.toArray)
    obtain ⟨hz, hT, hO, h1, h2⟩ := st
    have hA := hot.2 _ _ _ _ I
    have e : i = min its.toArray.size its2.toArray.size := by simp; omega
    exact turn_done D I hf ⟨hz, hT, hO, ⟨⟨by rw [← e]; exact h1, p1⟩, hA⟩, ⟨⟨by rw [← e]; exact h2, p2⟩, hA⟩⟩ hw
def PIEB (X : Cx) (x1 : Addr) (pins : List (Addr × Obj)) (σ : L2.St) (tg : Expr) (R : It → Hp → Prop) (v : Value) (s : Shared) : Prop :=
  ∃ (it : Addr) (fp : List Addr) (tn : Nat → Heap → Prop) (J : It) (H : Hp), v = .ref it ∧ Inv X pins σ H s ∧ TurnB x1 X.prog X.w X.K tg J fp it tn ∧ tn 0 s.heap ∧ (∀ b ∈ fp, FpOk X pins H b) ∧ R J H
structure PIB (X : Cx) (x1 : Addr) (tg iter : Expr) (wi : TI) : Prop where
  run : ∀ (pins : List (Addr × Obj)) (s : Shared) (σ : L2.St) (H : Hp) (R : It → Hp → Prop), Inv X pins σ H s → wi σ H R → wpAny (model X.prog X.w) X.A (eval iter X.env) (fun v s1 => wpAny (model X.prog X.w) X.A (pyIter v) (PIEB X x1 pins σ tg R) X.xe s1) X.xe s
def iZipB (K : PySem.W.Frag) (ta : TA) : TI := fun σ H R => ta σ H fun vs H1 => ∃ a b xs ys, vs = [.ref a, .ref b] ∧ SqL K H1 a xs ∧ SqL K H1 b ys ∧ R (Itzz K false false a b) H1
theorem pi_zzB {X : Cx} {x1 : Addr} {e e2 : Expr} {ta : TA} {p pos tpos : Pos} {elts : List Expr} {kk : Nat} (hot : HotB X x1) (hg : Gl X "zip") (hm : X.mg "zip" = none) (ha : PA X [e, e2] ta)
    (hs : starEach [e, e2] X.env = (false, eval e X.env) :: starEach [e2] X.env := by rfl) (hpl : (backTo pos (starEach [e2] X.env)).any (·.1) = false := by rfl) : PIB X x1 (.Tuple elts kk tpos) (.Call (.Name "zip" p) [e, e2] [] pos) (iZipB X.K ta) := by
  refine ⟨fun pins s σ H R I h => Call_ (ld_blt I hg hm boot_zip (callWith_type1 (thn (ha.run pos pins s σ H _ I h) fun us s1 ⟨vs, H1, I1, r1, a, b, xs, ys, ex, hx, hy, q1⟩ => ?_) hs hpl))⟩
  subst ex
  cases r1 with
  | cons r rr =>
    cases rr with
    | cons r' rr =>
      cases rr; cases r; cases r'
      obtain ⟨its, rv, p1, la⟩ := sq_get (k := false) I1 hx
      obtain ⟨its2, rv2, p2, lb⟩ := sq_get (k := false) I1 hy
      have lx : x1 < s1.heap.objs.size := let ⟨_, o, _, ho, _⟩ := hot.2 _ _ _ _ I1; Heap.lt_size ho
      refine zip_begins2 (begins_sq false a its.toArray) (begins_sq false b its2.toArray) p1 p2 fun h' hz hTI hTO h1 h2 hsz hk => wpAny_pyIter_zip hz ?_
      refine ⟨_, _, _, _, H1, rfl, I1.kept (t' := s1.toks) hk, turn_zzB la lb lx, ⟨hz, hTI, ⟨_, _, hTO⟩, itKd_new h1, itKd_new h2⟩, fun c hcm => ?_, q1⟩
      have : c = s1.heap.objs.size + 4 ∨ c = s1.heap.objs.size + 2 ∨ c = s1.heap.objs.size + 3 ∨ c = s1.heap.objs.size ∨ c = s1.heap.objs.size + 1 := by simpa using hcm
      have hle : s1.heap.objs.size ≤ c := by
        rcases this with rfl | rfl | rfl | rfl | rfl <;> first | exact Nat.le_add_right _ _ | exact Nat.le_refl _
      exact I1.fpOk hle (I1.hok.fresh hle)
theorem pg_tupB {X : Cx} {x1 : Addr} {es : List Expr} {k n : Nat} {pos : Pos} {t : TGs} (hot : HotB X x1) (h : PGs X es t) (hn : (assignEach es X.env).length = n := by rfl) (hst : (assignEach es X.env).findIdx? (·.1) = none := by rfl) : PG X (.Tuple es k pos) (gTup X.K n t) :=
  ⟨fun pins s σ H v u Q I r ⟨a, xs, e1, hq, hl, hw⟩ => by
    subst e1; cases r
    obtain ⟨its, rv, ht, hz⟩ := I.tuple hq
    refine assign_tuple_hot (hot.2 _ _ _ _ I) ht (by simp [hn, ← hl, rv.length]) hst fun h' hx => ?_
    exact h.run pins _ σ H xs _ Q (I.kept (h' := h') (t' := s.toks) fun b o e => hx b o (Nat.ne_of_lt (Heap.lt_size e)) e) (by simpa using rv) hw⟩
end Dt
set_option Elab.async false
set_option linter.all false
set_option maxRecDepth 100000
set_option maxHeartbeats 4000000
namespace Dt
open PySem PySem.Spec PyProof.Rows L2 HotX
variable [HW]
section
variable {X : Cx} {p : Addr × Obj}
/-- a block's states bear it too -/
theorem HotB.blk {pins : List (Addr × Obj)} {σ : L2.St} {H : Hp} {s : Shared} {scope : Scope} {ce : PySem.Env} {fp : List Addr} (hot : L2H.Hot1 X.A p) (hp : p ∈ X.pn) (I : Inv X pins σ H s) (hf : ∀ b ∈ fp, FpOk X pins H b) : HotB (X.blk s H scope ce fp) p.1 := by
  obtain ⟨g, n, nl, nf, _⟩ := I.pin p (List.mem_append_left _ hp)
  obtain ⟨hh, v1, e1, c1⟩ := hot
  exact ⟨hh, fun pins' σ' H' s' J => ⟨hh, p.2, v1, J.base.keep p.1 p.2 g n (fun z => (List.mem_cons.mp (I.stkSub p.1 z)).elim nl nf) fun z => (hf p.1 z).2.2.2.2.2 p (List.mem_append_left _ hp) rfl, e1, c1⟩⟩
theorem lc_hot {pins : List (Addr × Obj)} {s : Shared} {σ : L2.St} {H : Hp} {Q : VK} {elt tg iter : Expr} {ifs : List Expr} {scope : Scope} {own : List (Str × Nat)} {pos pos' : Pos} {wi : TI} {g : TG} {tt : TT} {te : TE} {use : Option (Value → Sem Unit)} {Qf : Value → Shared → Prop}
    (hot : L2H.Hot1 X.A p) (hp : p ∈ X.pn) (hN : X.N.Nodup) (I : Inv X pins σ H s) (hi : PIB X p.1 tg iter wi) (ok : BlkOk X.N X.env.scope scope own)
    (hg : ∀ (s : Shared) (H : Hp) (C : Addr) (cl : List (Str × Addr)) (fp : List Addr), HotB (X.blk s H scope (compEnvC scope cl C X.env) fp) p.1 → PG (X.blk s H scope (compEnvC scope cl C X.env) fp) tg g)
    (ht : ∀ (s : Shared) (H : Hp) (C : Addr) (cl : List (Str × Addr)) (fp : List Addr), PTs (X.blk s H scope (compEnvC scope cl C X.env) fp) ifs tt)
    (he : ∀ (s : Shared) (H : Hp) (C : Addr) (cl : List (Str × Addr)) (fp : List Addr), PE (X.blk s H scope (compEnvC scope cl C X.env) fp) elt te) (hs : ∀ x, foldedSetIterable iter X.env x = pure x) (h : tLc wi g tt te (own.map (·.2)) σ H Q)
    (hR : ∀ D C s' m H', Inv X pins σ H' s' → Q (.ref D) H' → s'.heap.Ns C m → FpOk X pins H' C → compPost (model X.prog X.w) X.A X.xe use Qf (.ref D) C (.ok .next) s') :
    wpAny (model X.prog X.w) X.A (comprehension (.ListComp elt [⟨tg, iter, ifs, 0⟩] scope pos) scope X.env pos' (newList []) false (eval iter X.env) use) Qf X.xe s := by
  have hfree : ∀ y ∈ scope.names, y.2 = .free → ∃ c, X.env.cells.lookup y.1 = some c := fun y hy e => (ok.free y hy e).elim (fun k => I.ok.has _ (.inl k)) fun k => I.ok.has _ (.inr k)
  refine wpAny_comprehension_free (use := use) rfl hs (closure_ok hfree) ok.kind (fun y hy e => by rw [ok.uniq y hy, e]) (thn (hi.run pins s σ H _ I h) fun xv s1 hx => thn hx fun itv s2 ⟨it, fp, tn, J, H2, e, I2, T, st2, f2, q⟩ => ?_)
  subst e
  refine wpAny_newObj_type (newEnv_comp ?_) (by show 0 ≤ sizeLine; decide)
  generalize hD : s2.heap.objs.size = D
  obtain ⟨W, ⟨m0, w0⟩, turn⟩ := q D (I2.hok.fresh (Nat.le_of_eq hD))
  generalize hs3 : ({ s2 with heap := s2.heap.push { cls := .type "list", data := .seq ([] : List Value).toArray } } : Shared) = s3
  have I3 : Inv X pins σ (upd H2 D (.lst [])) s3 := (by
    subst hs3 hD
    exact I2.laid (t' := s2.toks) (fun b o e => Heap.get?_push_of_some _ e) (Nat.le_refl _) ⟨Nat.zero_le _, [], 0, .nil, Heap.get?_push_size _ rfl⟩)
  have h3 : s3.heap = s2.heap.push { cls := .type "list", data := .seq ([] : List Value).toArray } := (by rw [← hs3])
  have f3 : ∀ b ∈ fp, FpOk X pins (upd H2 D (.lst [])) b ∧ b < s3.heap.objs.size := fun b hb => by
    obtain ⟨o, e, _⟩ := T.ob _ _ st2 b hb
    have hlt := Heap.lt_size e
    exact ⟨⟨(upd_ne (by rw [← hD]; exact Nat.ne_of_lt hlt)).trans (f2 b hb).1, (f2 b hb).2⟩, by rw [h3, Heap.size_push]; exact Nat.lt_succ_of_lt hlt⟩
  have st3 : tn 0 s3.heap := T.kp _ _ _ st2 fun b _ o e => (by rw [h3]; exact Heap.get?_push_of_some _ e)
  have I4 := block_start I3 ok hN f3
  have hb : HotB (X.blk s3 (upd H2 D (.lst [])) scope (compEnvC scope (cellsFrom (s3.heap.objs.size + 1) scope.names (cloFrom X.env.cells scope.names [])) s3.heap.objs.size X.env) fp) p.1 := HotB.blk hot hp I3 fun b hb => (f3 b hb).1
  have pg := hg s3 (upd H2 D (.lst [])) s3.heap.objs.size (cellsFrom (s3.heap.objs.size + 1) scope.names (cloFrom X.env.cells scope.names [])) fp hb
  have pt := ht s3 (upd H2 D (.lst [])) s3.heap.objs.size (cellsFrom (s3.heap.objs.size + 1) scope.names (cloFrom X.env.cells scope.names [])) fp; have pe := he s3 (upd H2 D (.lst [])) s3.heap.objs.size (cellsFrom (s3.heap.objs.size + 1) scope.names (cloFrom X.env.cells scope.names [])) fp
  show codeAny _ _ (.compStart (.ListComp elt [⟨tg, iter, ifs, 0⟩] scope pos) 0 (.ref it) (.ref D) (compEnvC scope (cellsFrom (s3.heap.objs.size + 1) scope.names (cloFrom X.env.cells scope.names [])) s3.heap.objs.size X.env)) (compPost (model X.prog X.w) X.A X.xe use Qf (.ref D) s3.heap.objs.size)
    { s3 with heap := pushCells (s3.heap.push { cls := .type "dict", data := .dict #[] }) scope.names }
  have nfp : ∀ b ∈ fp, (upd H2 D (.lst [])) b = none := fun b hb => (f3 b hb).1.1
  generalize hce : compEnvC scope (cellsFrom (s3.heap.objs.size + 1) scope.names (cloFrom X.env.cells scope.names [])) s3.heap.objs.size X.env = ce at I4 pg pt pe hb ⊢
  have cL : ce.locals = s3.heap.objs.size := (by subst hce; rfl)
  generalize hH3 : upd H2 D (.lst []) = H3 at I3 I4 pg pt pe w0 nfp f3 hb
  generalize hs4 : ({ s3 with heap := pushCells (s3.heap.push { cls := .type "dict", data := .dict #[] }) scope.names } : Shared) = s4 at I4 ⊢
  have st4 : tn 0 s4.heap := T.kp _ _ _ st3 fun b _ o e => (by rw [← hs4]; exact pushCells_keeps _ _ _ _ (Heap.get?_push_of_some _ e))
  have stat : ∀ {σ' : L2.St} {H' : Hp} {s' : Shared}, Inv (X.blk s3 H3 scope ce fp) [] σ' H' s' → (∀ b ∈ fp, H' b = none) → ∀ b ∈ fp, FpOk (X.blk s3 H3 scope ce fp) [] H' b := fun {σ' H' s'} I' hn b hb => ⟨hn b hb, (I'.ok.exf b hb).1, I'.ok.exfs b hb, .inl hb, (I'.ok.exf b hb).2, fun p hp => nomatch (show p ∈ ([] : List (Addr × Obj)) ++ [] from hp)⟩
  have loop : codeAny (model X.prog X.w) X.A (.compLoop (.ListComp elt [⟨tg, iter, ifs, 0⟩] scope pos) 0 (.ref it) (.ref D) ce) (compPost (model X.prog X.w) X.A X.xe use Qf (.ref D) s3.heap.objs.size) s4 := by
    refine compLoop_any (fun n s' => ∃ i H', Inv (X.blk s3 H3 scope ce fp) [] (wipe σ (own.map (·.2))) H' s' ∧ tn i s'.heap ∧ (∀ b ∈ fp, H' b = none) ∧ W i n H') ?_ m0 ⟨0, H3, I4, st4, nfp, w0⟩
    rintro n s5 ⟨i, H5, I5, st5, n5, w5⟩
    rcases turn i n H5 w5 with ⟨stop, qq⟩ | ⟨go, Nx, hNx, step⟩
    · refine thnF (T.dn (X.blk s3 H3 scope ce fp) ⟨rfl, rfl, rfl⟩ hb i [] s5 _ H5 (fun _ _ => False) I5 (stat I5 n5) st5 stop) fun r s6 ⟨hr, I6⟩ => ?_
      subst hr
      have I7 : Inv X pins σ H5 s6 := I3.call' (ch := fp) I6.os I6.base I6.hok I6.bare fun b hb => let z := (f3 b hb).1; ⟨z.2.2.2.1, z.2.1, z.2.2.2.2.1, z.2.2.2.2.2⟩
      have nC : H5 s3.heap.objs.size = none := cL ▸ I6.free
      obtain ⟨m, hn, _⟩ := I6.loc
      exact hR D s3.heap.objs.size s6 m H5 I7 qq (cL ▸ hn) (I3.fpOk (Nat.le_refl _) nC)
    · refine thnF (T.itm (X.blk s3 H3 scope ce fp) ⟨rfl, rfl, rfl⟩ hb i [] s5 _ H5 (fun _ _ => False) I5 (stat I5 n5) st5 go) fun r s6 ⟨u, hr, h6⟩ => ?_
      subst hr
      refine thnF h6 fun _ s7 ⟨x, H7, I7, r7, y7, st7, n7⟩ => thnF (pg.run _ s7 _ H7 x u _ (I7.pinned (stat I7 n7) (T.ob _ _ st7)) r7 (step x H7 y7)) fun _ s8 ⟨σ8, H8, I8, hw8, q8⟩ => thnF (pt.run _ s8 σ8 H8 _ I8 q8) fun b s9 ⟨H9, I9, q9⟩ => ?_
      have fin : ∀ {s' : Shared} {H' : Hp}, Inv (X.blk s3 H3 scope ce fp) ([] ++ pinsAt fp s7.heap) σ8 H' s' → Nx H' → ∃ m, m < n ∧ ∃ i H', Inv (X.blk s3 H3 scope ce fp) [] (wipe σ (own.map (·.2))) H' s' ∧ tn i s'.heap ∧ (∀ b ∈ fp, H' b = none) ∧ W i m H' := fun {s' H'} I' nx => by
        obtain ⟨m', hm, w'⟩ := hNx H' nx
        have pin' : ∀ b ∈ fp, ∀ o, s7.heap.get? b = some o → s'.heap.get? b = some o ∧ H' b = none := fun b hb o e => (I'.pin (b, o) (List.mem_append_right _ (List.mem_append_right _ (mem_pinsAt hb e)))).imp id And.left
        refine ⟨m', hm, i + 1, H', (I'.unpinned (pins := [])).weak (by rw [← hw8, wipe_length]) (fun j v e => (wipe_some (hw8 ▸ e)).1), T.kp _ _ _ st7 fun b hb o e => (pin' b hb o e).1, fun b hb => let ⟨o, e, _⟩ := T.ob _ _ st7 b hb; (pin' b hb o e).2, w'⟩
      cases b with
      | false => exact fin I9 q9
      | true => exact thnF (pe.run _ s9 σ8 H9 _ I9 q9) fun z s10 ⟨yv, H10, I10, r10, acc, hD10, hz10, nx⟩ => app_ok (X := X.blk s3 H3 scope ce fp) I10 hD10 hz10 r10 fun s11 I11 => fin I11 nx
  exact codeAny_compStart_list loop (T.sf X.A 0 _ _ _ st4 loop)
theorem pe_lcB {elt tg iter : Expr} {ifs : List Expr} {scope : Scope} {own : List (Str × Nat)} {pos : Pos} {wi : TI} {g : TG} {tt : TT} {te : TE} (hot : L2H.Hot1 X.A p) (hp : p ∈ X.pn) (hN : X.N.Nodup) (hi : PIB X p.1 tg iter wi) (ok : BlkOk X.N X.env.scope scope own)
    (hg : ∀ (s : Shared) (H : Hp) (C : Addr) (cl : List (Str × Addr)) (fp : List Addr), HotB (X.blk s H scope (compEnvC scope cl C X.env) fp) p.1 → PG (X.blk s H scope (compEnvC scope cl C X.env) fp) tg g)
    (ht : ∀ (s : Shared) (H : Hp) (C : Addr) (cl : List (Str × Addr)) (fp : List Addr), PTs (X.blk s H scope (compEnvC scope cl C X.env) fp) ifs tt)
    (he : ∀ (s : Shared) (H : Hp) (C : Addr) (cl : List (Str × Addr)) (fp : List Addr), PE (X.blk s H scope (compEnvC scope cl C X.env) fp) elt te) (hs : ∀ x, foldedSetIterable iter X.env x = pure x := by intro _; rfl) :
    PE X (.ListComp elt [⟨tg, iter, ifs, 0⟩] scope pos) (tLc wi g tt te (own.map (·.2))) := ⟨fun pins s σ H Q I h => by
  rw [eval_ListComp]
  exact lc_hot hot hp hN I hi ok hg ht he hs h fun D C s' m H' I' q hn ⟨f0, f1, f2, f3, f4, f5⟩ => ⟨m, hn, fun h'' sb => ⟨.ref D, H', I'.turned (t' := s'.toks) (fun b o hb e => (sb.2 b hb).trans e) f0 f1 f3 f4 f5, rfl, q⟩⟩⟩
end
end Dt
set_option Elab.async false
set_option linter.all false
set_option maxRecDepth 100000
set_option maxHeartbeats 4000000
namespace Dt
open PySem PySem.Spec PyProof.Rows L2 HotX
variable [HW]
def txtsD : List D → Option (List Str)
  | [] => some []
  | .str s :: ds => (txtsD ds).map (s :: ·)
  | _ => none
theorem txts_rp {K : PySem.W.Frag} {F : Hp} : ∀ {vs : List V} {ds : List D} {ys : List Str}, Rps K F vs ds → txtsD ds = some ys → vs = ys.map V.str
  | _, _, _, .nil, e => by cases e; rfl
  | _, _, _, .cons (d := d) (ds := ds) a b, e => by
    cases a with
    | str s =>
      simp only [txtsD] at e
      cases e2 : txtsD ds with
      | none => rw [e2] at e; cases e
      | some zs => rw [e2] at e; cases e; rw [txts_rp b e2]; rfl
    | _ => simp only [txtsD] at e; cases e
def joinG (a : Str) (d : D) : Option D := match d with
  | .lst ds => (txtsD ds).bind fun ys => if (ys.map (·.length)).sum + ys.length * a.length ≤ 16777216 then some (.str (Txt.join a ys)) else none
  | _ => none
def sJoin (so se : SE) : SE := fun ρ => (so ρ).bind fun d ρ1 => match d with
  | .str a => (se ρ1).bind fun l ρ2 => ofO (joinG a l) ρ2
  | _ => .stuck
@[simp] theorem ev_join (so se : SE) (ρ : Env) : sJoin so se ρ = (so ρ).bind fun d ρ1 => match d with
  | .str a => (se ρ1).bind fun l ρ2 => ofO (joinG a l) ρ2
  | _ => .stuck := rfl
section
variable {ex : Exx} {X : Cx} {W : WX} {o e : Expr} {apos pos : Pos} {so se : SE}
theorem d_join (ho : DE (GK X ex) X W o so) (he : DE (GK X ex) X W e se) (hs : starEach [e] X.env = [(false, eval e X.env)] := by rfl) (hbase : attributeBase o "join" X.env (eval o X.env) = eval o X.env := by rfl) (hline : (apos.endLine == pos.line) = true := by rfl) :
    DE (GK X ex) X W (.Call (.Attribute o "join" apos) [e] [] pos) (sJoin so se) :=
  wkE (pe_join ho he hs hbase hline) fun σ H Q ⟨ρ, F, Rv, io, rel, q⟩ => by
    refine ⟨ρ, F, Rv, io, rel, ?_⟩
    unfold sJoin at q
    cases e1 : so ρ with
    | stuck => rw [e1] at q; exact q.elim
    | exc x ρ' => rw [e1] at q; exact q
    | ok d ρ1 =>
      rw [e1, R.bind_ok] at q
      intro v H1 F1 le1 rel1 rp
      cases d with
      | str a =>
        cases rp
        refine ⟨⟨a, rfl⟩, ρ1, F1, Rv, io, rel1, ?_⟩
        cases e2 : se ρ1 with
        | stuck => simp only [e2] at q; exact q.elim
        | exc x ρ' => simp only [e2] at q; exact XPost.le q le1
        | ok l ρ2 =>
          simp only [e2, R.bind_ok] at q
          intro v2 H2 F2 le2 rel2 rp2
          cases e3 : joinG a l with
          | none => rw [e3] at q; exact q.elim
          | some d =>
            rw [e3] at q
            unfold joinG at e3
            split at e3
            · rename_i ds
              cases e4 : txtsD ds with
              | none => rw [e4] at e3; cases e3
              | some ys =>
                rw [e4, Option.bind_some] at e3
                split at e3
                · rename_i hz
                  cases e3
                  cases rp2 with
                  | lst t r =>
                    rw [txts_rp r e4] at t
                    exact ⟨a, _, ys, rfl, rfl, .inl (SqL.of (rel2.fH _ _ t)), hz, q _ H2 F2 (le1.trans le2) rel2 (.str _)⟩
                · cases e3
            · cases e3
      | _ => exact q.elim
end
section
open PySem.W PySem.Calls PySem.Builtin PySem.Builtin.ObjectAttr PySem.Builtin.Getset_descriptor
variable {prog : Program} {w : World} {A : Around} {E : Value → Shared → Prop} {s : Shared} {K : Frag} {x D : Addr} {ox : Obj} {R : Result → Shared → Prop}
/-- at x: an instance of D -/
structure InstX (h : Heap) (x : Addr) (ox : Obj) (D : Addr) : Prop where
  at_ : h.get? x = some ox
  cls : ox.cls = .ref D
theorem InstX.type {M : Model} {h : Heap} (I : InstX h x ox D) : Looks M h (typeOf (.ref x)) (.ref D) := I.cls ▸ (Looks.ld I.at_).andThen .now
theorem class_getX {tp : Value} (X : K.In s.heap) (I : InstX s.heap x ox D) (hm : mroIn K D (.type "object") = some true)
    (h : R (.ok (.ret (.ref D))) s) : codeAny (model prog w) A (.call (.builtin "getset_descriptor.__get__") ⟨[.builtin "object.__class__", .ref x, tp], []⟩) R s := by
  obtain ⟨hh, g, dr, t, os⟩ := s
  have L0 := I.type (M := model prog w)
  have L1 := looks_mroIn (M := model prog w) X hm
  refine codeAny_call_builtin KF.slot_gs.plain KF.entry_gs (KF.slot_gs.check _ _ _ _ _ _ _ _ KF.type_class (KF.args_gs _ _ _) ?_)
  unfold Builtin.«getset_descriptor.__get__» descrGet
  rw [dga_obj]
  refine wpAny_bind (wpAny_pure ?_)
  unfold descrGetter descrCheckInstance descrNameAndClass isInstance
  simp only [KF.owner_class]
  repeat lk
  refine ⟨Code.quiet_builtin _ (by decide +kernel), codeAny_builtin KF.entry_class ?_⟩
  unfold Builtin.«object.__class__» shownTypeOf
  repeat lk
  exact h
theorem kin_classX {Q : Option Value → Shared → Prop} (hga : findIn K (.ref D) "__getattribute__" = some (some (.builtin "BaseException.__getattribute__"))) (hgt : findIn K (.ref D) "__getattr__" = some none) (hsub : subIn K (.ref D) (.type "BaseException") = some true)
    (hdct : hasDictIn K D = true) (ha : findIn K (.ref D) "__class__" = some (some (.builtin "object.__class__")))
    (hn : specialIn K (.builtin "object.__class__") "__get__" = some (some (.builtin "getset_descriptor.__get__"))) (htk : takesIn K (.builtin "object.__class__") = some true) (hm : mroIn K D (.type "object") = some true)
    (X : K.In s.heap) (I : InstX s.heap x ox D) (h : Q (some (.ref D)) { s with toks := s.toks + 1 }) : wpAny (model prog w) A (getAttr? (.ref x) "__class__") Q E s := by
  obtain ⟨hp, g, d, t, os⟩ := s
  have L0 := I.type (M := model prog w)
  have L1 := looks_findIn (M := model prog w) X hga
  have L2 := looks_findIn (M := model prog w) X hgt
  have L3 : Looks (model prog w) hp (PySem.Builtin.ObjectAttr.find (.ref x) (.ref D) "__class__") (PySem.Builtin.ObjectAttr.Found.bind (.builtin "getset_descriptor.__get__") (.builtin "object.__class__")) := by
    have a1 := looks_findIn (M := model prog w) X ha
    have a2 : Looks (model prog w) hp (getOf (some (.builtin "object.__class__"))) (some (.builtin "getset_descriptor.__get__")) := looks_specialIn X hn
    have a3 := looks_takesIn (M := model prog w) X htk
    exact a1.andThen (a2.andThen ((show Looks (model prog w) hp (dataDescriptor? (some (.builtin "object.__class__")) (some (.builtin "getset_descriptor.__get__"))) (some (.builtin "getset_descriptor.__get__", .builtin "object.__class__")) from a3.andThen .now).andThen (Looks.tag .now)))
  have sub : Looks (model prog w) hp (isInstance (.ref x) (.type "BaseException")) true := L0.andThen (looks_subIn X hsub)
  have hx0 : (false && onTheHeap (Value.builtin "BaseException.__getattribute__")) = false := rfl
  have hx2 : (Value.builtin "BaseException.__getattribute__" == Value.builtin "object.__getattribute__") = false := by decide +kernel
  have hx1 : (onTheHeap (Value.ref D) && Value.builtin "BaseException.__getattribute__" == Value.builtin "object.__getattribute__") = false := by rw [hx2]; rfl
  unfold getAttr? getAttrBy? getAttrBy
  refine wpAny_bind (wpAny_mkText (wpAny_bind (wpAny_attempt (wpAny_holding (wpAny_bind (L0.at (wpAny_bind (L1.at ?_))))))))
  show wpAny _ _ (if (onTheHeap (Value.ref D) && Value.builtin "BaseException.__getattribute__" == Value.builtin "object.__getattribute__") = true then _ else _) _ _ _
  rw [hx1, if_neg Bool.false_ne_true]
  unfold getAttrByItsOwn hookBefore
  refine wpAny_bind ?_
  rw [if_pos (show onTheHeap (Value.ref D) = true from rfl)]
  refine L2.at ?_
  refine wpAny_bind (wpAny_attempt (wpAny_holding ?_))
  unfold callGetattribute
  rw [hx0, if_neg Bool.false_ne_true]
  unfold boundAndCalled
  rw [PySem.F.excAttr_ValueError.ga.bind (.ref x)]
  refine wpAny_bind (wpAny_pure ?_)
  show wpAny _ _ (call (.builtin "BaseException.__getattribute__") [.ref x, .str "__class__" t]) _ _ _
  refine wpAny_call (codeAny_call_builtin PySem.F.excAttr_ValueError.ga.plain PySem.F.entry_bexc_ga ?_)
  refine @check_slot (model prog w) _ _ ⟨hp, g, d, t + 1, os⟩ "BaseException.__getattribute__" "BaseException" "__getattribute__" (.ref x) [.str "__class__" t] [] _ (by decide +kernel) (by decide +kernel) sub (PySem.F.args_bexc_ga (.ref x) (.str "__class__" t)) ?_
  unfold Builtin.«object.__getattribute__»
  refine wpAny_bind (wpAny_of_eq (a := ((Value.ref x : Value), [Value.str "__class__" t])) (by first | rfl | (simp only [slotArgs]; rfl)) ?_)
  refine wpAny_bind (wpAny_pure (wpAny_bind (L0.at (wpAny_bind (L3.at ?_)))))
  show wpAny _ _ (holding [Value.builtin "object.__class__"] (call (.builtin "getset_descriptor.__get__") [.builtin "object.__class__", .ref x, .ref D]) >>= ret) _ _ _
  refine wpAny_bind (wpAny_holding (wpAny_call (class_getX (s := ⟨hp, g, d, t + 1, os⟩) (ox := ox) X I hm ?_)))
  refine wpAny_pure ?_
  show wpAny _ _ (handedOut (.ref D)) _ _ _
  rw [handedOut_of (v := .ref D) rfl]
  first
    | exact wpAny_pure (wpAny_pure h)
    | exact wpAny_pure h
    | exact wpAny_pure (wpAny_bind (wpAny_pure (wpAny_pure h)))
theorem kitx_excX (hga : findIn K (.ref D) "__getattribute__" = some (some (.builtin "BaseException.__getattribute__"))) (hgt : findIn K (.ref D) "__getattr__" = some none) (hsub : subIn K (.ref D) (.type "BaseException") = some true) (hdct : hasDictIn K D = true) (ha : findIn K (.ref D) "__class__" = some (some (.builtin "object.__class__")))
    (hn : specialIn K (.builtin "object.__class__") "__get__" = some (some (.builtin "getset_descriptor.__get__"))) (htk : takesIn K (.builtin "object.__class__") = some true) (hm : mroIn K D (.type "object") = some true) :
    KitX K (.ref x) (.ref D) (fun h => InstX h x ox D) where
  ty := fun _ _ _ I => I.type
  it := fun _ _ X _ => by
    obtain ⟨cdD, hcD, _⟩ := any_some hdct
    unfold clsIn at hcD
    split at hcD
    · rename_i c' d' cd' sl' ho
      intro A' Q' E' s' k q
      unfold isType loadHead
      exact wpAny_bind (wpAny_loadPart (k _ _ (X _ _ ho)) (wpAny_pure q))
    · cases hcD
  ne := fun h tp dd its n sl X htp => by
    obtain ⟨cdD, hcD, _⟩ := any_some hdct
    refine Bool.eq_false_iff.mpr fun q => ?_
    have e : D = tp := Value.ref.inj (beq_iff_eq.mp q)
    subst e
    unfold clsIn at hcD
    split at hcD
    · rename_i c' d' cd' sl' ho
      have z := (X _ _ ho).symm.trans htp
      cases z
    · cases hcD
  ca := fun X I k => kin_classX hga hgt hsub hdct ha hn htk hm X I k
end
theorem call_isP {X : Cx} {a C : Addr} {oe : Obj} {dx : Option Addr} (hp : (a, oe) ∈ X.pn) (c : ExcC X.K C) (hz : Zc (.ref C) dx oe) (hf : ∃ vs, oe.data = .fields vs) : CallR X (.builtin "isinstance") (rIsE X.K C a) := fun pins s σ H xs us Q I r ⟨d, cv, b, ex, hcv, e, q⟩ => by
  subst ex
  match us, r with
  | [_, ut], .cons rx (.cons rt .nil) =>
    obtain rfl : _ = Value.ref a := rx
    obtain rfl : ut = cv := hcv _ rt
    have J : InstX s.heap a oe C := ⟨(I.pin (a, oe) (List.mem_append_left _ hp)).1, hz.1⟩
    exact PySem.W.kia_one (kitx_excX c.hg c.hk c.hs c.hd c.ha c.hn c.ht c.hm) I.kIn J e (fun z => nomatch z) fun tk => ⟨V.bl b, H, I.kept (fun _ _ z => z), rfl, q⟩
def sIsE (i : Nat) (a : Addr) (b : Bool) : SE := fun ρ => match ρ[i]? with
  | some (.fro (.exn c)) => if c = a then .ok (.bl b) ρ else .stuck
  | _ => .stuck
section
variable {ex : Exx} {X : Cx} {W : WX} {e : Expr} {p pos : Pos}
theorem d_isE {i : Nat} {a C c : Addr} {oe : Obj} {dx : Option Addr} {b : Bool} {t : Str} {q : Pos} (hp : (a, oe) ∈ X.pn) (cc : ExcC X.K C) (hz : Zc (.ref C) dx oe) (hf : ∃ vs, oe.data = .fields vs) (hg : Gl X "isinstance") (hm : X.mg "isinstance" = none)
    (gt : Gl X t) (mt : X.mg t = some (.ref c)) (k : PySem.W.kitOne X.K (.ref C) (.ref c) = some b) (ha : PE X e (tVar i)) (hd : (t == ("__debug__" : Str)) = false := by decide)
    (he : starEach (e :: (.Name t q) :: []) X.env = (false, eval e X.env) :: starEach ((.Name t q) :: []) X.env := by rfl) (hpl : (backTo pos (starEach ((.Name t q) :: []) X.env)).any (·.1) = false := by rfl) (hs2 : starEach ((.Name t q) :: []) X.env = (false, eval (.Name t q) X.env) :: starEach [] X.env := by rfl) :
    DE (GK X ex) X W (.Call (.Name "isinstance" p) (e :: (.Name t q) :: []) [] pos) (sIsE i a b) :=
  wkE (isi_gl hg hm (call_isP hp cc hz hf) (pa_cons ha (pa_cons (pe_glob (v := .ref c) gt mt rfl hd) pa_nil hs2) he) he hpl) fun σ H Q ⟨ρ, F, Rv, io, rel, z⟩ => by
    unfold sIsE at z
    cases e1 : ρ[i]? with
    | none => rw [e1] at z; exact z.elim
    | some cl =>
      rw [e1] at z
      cases cl with
      | fro d =>
        cases d with
        | exn c' =>
          by_cases ec : c' = a
          · simp only [if_pos ec] at z
            subst ec
            obtain ⟨v, e2, x, rfl, rp⟩ := rel.slot e1
            cases rp
            exact ⟨_, e2, .ref c, .ref c, b, rfl, (fun u h => h), k, z (.bl b) H F (FLe.refl F) rel (.bl b)⟩
          · simp only [if_neg ec] at z
        | _ => exact z.elim
      | _ => exact z.elim
end
def zipL : List D → Option (List D)
  | [.lst xs, .lst ys] => some (pairUp xs ys)
  | _ => none
def iZipL (s : SA) : SA := fun ρ => (s ρ).bind fun ds ρ' => ofO (zipL ds) ρ'
@[simp] theorem ev_iZipL (s : SA) (ρ : Env) : iZipL s ρ = (s ρ).bind fun ds ρ' => ofO (zipL ds) ρ' := rfl
def gTupA (n : Nat) (gs : SGs) : SG := fun d ρ => match d with
  | .arg ds => if ds.length = n then gs ds ρ else .stuck
  | _ => .stuck
@[simp] theorem ev_gTupA (n : Nat) (gs : SGs) (ds : List D) (ρ : Env) : gTupA n gs (.arg ds) ρ = if ds.length = n then gs ds ρ else .stuck := rfl
section
variable {ex : Exx} {X : Cx} {W : WX} {e tg elt iter : Expr} {es : List Expr} {p pos : Pos} {sA : SA}
theorem d_iZipB {x1 : Addr} {e2 : Expr} {elts : List Expr} {kk : Nat} {tpos : Pos} (hot : HotB X x1) (hg : Gl X "zip") (hm : X.mg "zip" = none) (ha : DA (GK X ex) X W [e, e2] sA) (hs : starEach [e, e2] X.env = (false, eval e X.env) :: starEach [e2] X.env := by rfl) (hpl : (backTo pos (starEach [e2] X.env)).any (·.1) = false := by rfl) :
    PIB X x1 (.Tuple elts kk tpos) (.Call (.Name "zip" p) [e, e2] [] pos) (tI (GK X ex) W (iZipL sA)) :=
  ⟨fun pins s σ H RR I ⟨ρ, F, Rv, io, rel, q⟩ => (pi_zzB hot hg hm ha hs hpl).run pins s σ H RR I (by
    refine ⟨ρ, F, Rv, io, rel, ?_⟩
    rw [ev_iZipL] at q
    cases e1 : sA ρ with
    | stuck => rw [e1] at q; exact q.elim
    | exc x ρ' => rw [e1] at q; exact q
    | ok ds ρ' =>
      rw [e1, R.bind_ok] at q
      intro vs H' F' le rel' rs
      cases e3 : zipL ds with
      | none => rw [e3] at q; exact q.elim
      | some zs =>
        rw [e3] at q
        unfold zipL at e3
        split at e3
        · rename_i xs ys
          cases e3
          match vs, rs with
          | [_, _], .cons r1 (.cons r2 .nil) =>
            cases r1 with
            | lst t1 q1 =>
              cases r2 with
              | lst t2 q2 =>
                have s1 : SqK X.K false F' _ _ := SqL.of t1
                have s2 : SqK X.K false F' _ _ := SqL.of t2
                exact ⟨_, _, _, _, rfl, rel'.fH.sqL s1, rel'.fH.sqL s2, q _ H' F' le rel' (iter_zz s1 s2 q1 q2)⟩
        · cases e3)⟩
theorem d_gTupB {x1 : Addr} {k n : Nat} {gs : SGs} {js : List Nat} (hot : HotB X x1) (h : DGs (GK X ex) X W js es gs) (hn : (assignEach es X.env).length = n := by rfl) (hst : (assignEach es X.env).findIdx? (·.1) = none := by rfl) : DG (GK X ex) X W js (.Tuple es k pos) (gTupA n gs) :=
  wkG (pg_tupB hot h hn hst) fun v σ H Q ⟨d, ρ, F, Rv, io, rel, rp, q⟩ => by
    cases d with
    | arg ds =>
      cases rp with
      | arg t r =>
        rw [ev_gTupA] at q
        by_cases hl : ds.length = n
        · rw [if_pos hl] at q
          exact ⟨_, _, rfl, rel.fH.sqT t, by rw [r.length]; exact hl, ds, ρ, F, Rv, io, rel, r, q⟩
        · rw [if_neg hl] at q; exact q.elim
    | _ => exact q.elim
theorem d_compFB {pp : Addr × Obj} {ifs : List Expr} {scope : Scope} {own : List (Str × Nat)} {it : SA} {g : SG} {t : ST} {s : SE} {js : List Nat} (hot : L2H.Hot1 X.A pp) (hp : pp ∈ X.pn) (nd : X.N.Nodup) (hi : PIB X pp.1 tg iter (tI (GK X ex) W it)) (ok : BlkOk X.N X.env.scope scope own)
    (hg : ∀ (s : Shared) (H : Hp) (C : Addr) (cl : List (Str × Addr)) (fp : List Addr), HotB (X.blk s H scope (compEnvC scope cl C X.env) fp) pp.1 → DG (GK X ex) (X.blk s H scope (compEnvC scope cl C X.env) fp) W0 js tg g)
    (ht : ∀ (s : Shared) (H : Hp) (C : Addr) (cl : List (Str × Addr)) (fp : List Addr), PTs (X.blk s H scope (compEnvC scope cl C X.env) fp) ifs (tT (GK X ex) W0 t))
    (he : ∀ (s' : Shared) (H : Hp) (C : Addr) (cl : List (Str × Addr)) (fp : List Addr), DE (GK X ex) (X.blk s' H scope (compEnvC scope cl C X.env) fp) W0 elt s) (hjs : js.all (fun j => (own.map (·.2)).contains j) = true) (hs : ∀ x, foldedSetIterable iter X.env x = pure x := by intro _; rfl) :
    DF (GK X ex) X W (.ListComp elt [⟨tg, iter, ifs, 0⟩] scope pos) (sComp (own.map (·.2)) it g t s) :=
  wkE (pe_lcB hot hp nd hi ok hg ht he hs) fun σ H Q h => comp_core hjs h
end
end Dt
set_option Elab.async false
set_option linter.all false
set_option maxRecDepth 100000
set_option maxHeartbeats 4000000
namespace Dt
open PySem PySem.Spec PyProof.Rows L2 HotX L2H
variable [HW]
abbrev CXf : CXT := fun _ _ _ _ _ _ => False
section
variable {P : Program} {w : World} {K : PySem.W.Frag} {mg : Str → Option Value} {base : Heap}
/-- a def's body runs while p is handled -/
theorem run_pin {CX : CXT} {x qual : Str} {st : Stmt} {f : Addr} {fd : FuncData} {N ps : List Str} {k : Nat} (F : Fun K x qual st f fd) (S : FnScope N ps (defScope st)) {A : Around} {outer : List PySem.Env} {s : Shared} {H : Hp} {args : Args} {us : List Value} {vs : List V} {Q : VK} {E : XK} {p : Addr × Obj}
    (hr : RoomH (k + 1) A) (pin : PinOk outer H s p) (e0 : Env0 P w K mg base A outer s H) (hb : BindsTo s fd args (ps.zip us)) (r : Vals vs us) (hl : vs.length = ps.length)
    (body : ∀ cd : Value, RoomH k (A.deeper (envOfC qual (defScope st) s.heap.objs.size f cd)) → ∃ t, PSs (cxH CX P w K mg base N qual (defScope st) f cd A outer s H E p) (defBody st) t ∧ t { nx := fun _ H' => Q .non H', rt := Q } (L2.start N vs) H) :
    codeAny (model P w) A (.call (.ref f) args) (CR CX outer P w H s Q E) s := by
  obtain ⟨_, _, _, _, _, _, cd, _, _, e, lk, hcd⟩ := F.ex; subst e
  have KX : K.In s.heap := e0.mod.kin.keeps fun b o e => (e0.bs b o e).1; have lim : s.heap.NoLimit := e0.mod.nolimit.keeps fun b o e => (e0.bs b o e).1
  have hkind : ∀ y ∈ ps.zip us, (defScope st).names.lookup y.1 = some .local ∨ ((defScope st).names.lookup y.1 = some .cell ∧ ((cellsFrom (s.heap.objs.size + 1) (defScope st).names []).lookup y.1).isSome = true) := fun ⟨n, v⟩ hy => (S.par n (List.of_mem_zip hy).1).imp id fun q => ⟨q, PySem.W.cellsFrom_some _ _ _ (.inl q)⟩
  refine codeAny_call_function hr.depth (KX _ _ lk) rfl S.co S.gen rfl (PySem.W.codeRec_of KX hcd) (hb _ _ _ _ (wpAny_newFunctionEnv_cells S.kind hkind fun env he s1 x => ?_)); subst he
  refine ⟨lim.keeps x.toInCall.keep, codeAny_func ?_⟩
  obtain ⟨t, ht, hq⟩ := body cd (hr.deeper _)
  refine wpAny_mono (ht.run [] s1 (L2.start N vs) H _ (inv_startH S pin e0 hl r x) hq) (fun fl s' hs => ?_) fun e s' hs => hs
  have fin : ∀ {σ' : L2.St} {H' : Hp} {v : V} {u : Value}, Inv (cxH CX P w K mg base N qual (defScope st) f cd A outer s H E p) [] σ' H' s' → RelV v u → Q v H' → CE outer P w H s Q u s' := fun {σ' H' v u} J rv q => ⟨v, H', J.os, J.bare, J.base, J.hok, rv, q⟩
  cases fl with
  | ret u => exact let ⟨v, σ', H', J, rv, q⟩ := hs; fin J rv q
  | next => exact let ⟨σ', H', J, q⟩ := hs; fin (v := V.non) (u := Value.none) J rfl q
  | brk => exact let ⟨_, _, _, q⟩ := hs; q.elim
  | cont => exact let ⟨_, _, _, q⟩ := hs; q.elim
end
end Dt
set_option Elab.async false
set_option linter.all false
set_option maxRecDepth 100000
set_option maxHeartbeats 4000000
namespace Dt
open PySem PySem.Spec PyProof.Rows L2 HotX L2H
variable [HW]
/-- what of the environment is frozen data -/
def froOnly (ρ : Env) : Env := ρ.map fun c => match c with
  | .fro d => .fro d
  | _ => .no
theorem froOnly_at {ρ : Env} {i : Nat} {c : Cell} (h : (froOnly ρ)[i]? = some c) : c = .no ∨ ∃ d, c = .fro d ∧ ρ[i]? = some (.fro d) := by
  unfold froOnly at h
  rw [List.getElem?_map] at h
  cases e : ρ[i]? with
  | none => rw [e] at h; cases h
  | some c' =>
    rw [e] at h
    cases c' with
    | fro d => cases h; exact .inr ⟨d, rfl, rfl⟩
    | _ => cases h; exact .inl rfl
section
variable {T : List (Addr × Str)} {K : PySem.W.Frag} {io : Io T} {Rv F R' : Hp} {ρ : Env} {σ : L2.St} {H H1 : Hp}
theorem Rel.fros (r : Rel K io Rv ρ F σ H) (ap : Apart F R' H) : Rel K ({} : Io []) R' (froOnly ρ) F σ H := by
  have nh : ∀ {i : Nat} {c : Cell} {d : D}, (froOnly ρ)[i]? = some c → c.held = some d → False := fun {i c d} e h => by
    rcases froOnly_at e with rfl | ⟨_, rfl, _⟩ <;> cases h
  refine ⟨ap.f, ap.r, ap.d, by unfold froOnly; rw [List.length_map]; exact r.len, fun i c v e1 e2 => ?_, fun i j ci cj di dj p e1 _ h1 _ _ _ => (nh e1 h1).elim, fun ip hip => (nomatch hip), fun i d e => (nh e rfl).elim, fun t ht => (nomatch ht), ap.nt⟩
  rcases froOnly_at e1 with rfl | ⟨d, rfl, e3⟩
  · trivial
  · exact r.cell i _ v e3 e2
/-- a code object was made, the table grew -/
theorem Rel.tabled {P : Addr} {q : Str} {io : Io [(P, q)]} (r : Rel K io Rv ρ F σ H) (x : LamX.ExtN H H1) (tb : LamX.Tabs [(P, q)] H1) : ∃ F1, FLe F F1 ∧ Rel K io Rv ρ F1 σ H1 := by
  classical
  have tk := r.tab (P, q) (.head _)
  obtain ⟨tF, tR, nx, ps, tH, _⟩ := id tk
  obtain ⟨ps1, b1, b2, b3⟩ := tb (P, q) (.head _)
  have b1 : H1 P = some (.tbl ps1) := b1
  have fup : ∀ {a o}, F a = some o → H1 a = some o := fun {a o} e => x a o (r.fH a o e) fun ps z => r.nt.tb a ps (by rw [e, z])
  have rup : ∀ {a o}, Rv a = some o → H1 a = some o := fun {a o} e => x a o (r.rH a o e) fun ps z => nx.1 a ps (by rw [e, z])
  let F1 : Hp := fun a => if H1 a = some (LamX.CodeO a q) then H1 a else F a
  have yes : ∀ {a}, H1 a = some (LamX.CodeO a q) → F1 a = some (LamX.CodeO a q) := fun {a} e => (if_pos e).trans e
  have no : ∀ {a}, H1 a ≠ some (LamX.CodeO a q) → F1 a = F a := fun {a} e => if_neg e
  have le : FLe F F1 := fun a o e => by
    by_cases h : H1 a = some (LamX.CodeO a q)
    · rw [yes h, ← h]; exact fup e
    · rw [no h]; exact e
  have own : ∀ {p d}, OwnAt K F Rv H p d → OwnAt K F1 Rv H1 p d := fun {p d} w => by
    obtain ⟨o, e, ob⟩ := w.at_
    have e1 : H1 p = some o := x p o e (ob.nt default).1
    refine ⟨?_, w.nR, o, e1, ob.mono le⟩
    rw [no (fun z => by rw [e1] at z; exact ob.nx q (Option.some.inj z))]
    exact w.nF
  refine ⟨F1, le, fun a o e => ?_, fun a o e => rup e, fun a o e => ?_, r.len, fun i c v e1 e2 => ?_, r.inj, r.ios, r.ioc, fun t ht => ?_, fun a ps z => ?_⟩
  · by_cases h : H1 a = some (LamX.CodeO a q)
    · rw [yes h] at e; rw [h]; exact e
    · rw [no h] at e; exact fup e
  · by_cases h : H1 a = some (LamX.CodeO a q)
    · cases e2 : Rv a with
      | none => rfl
      | some o' => have z := rup e2; rw [h] at z; cases z; exact (nx.2 a q e2).elim
    · rw [no h] at e; exact r.dj a o e
  · have k := r.cell i c v e1 e2
    cases c with
    | no => trivial
    | fro d => obtain ⟨y, e, rp⟩ := k; exact ⟨y, e, rp.mono le⟩
    | own d => obtain ⟨p, e, w⟩ := k; exact ⟨p, e, own w⟩
    | io d => obtain ⟨p, e, w⟩ := k; exact ⟨p, e, own w⟩
  · have et : t = (P, q) := List.mem_singleton.mp ht
    subst et
    refine ⟨?_, tR, nx, ps1, b1, b2, fun pos cv hc => ?_⟩
    · show F1 P = none
      rw [no (fun z => by rw [b1] at z; exact LamX.codeO_ne ps1 (Option.some.inj z).symm)]
      exact tF
    · obtain ⟨c, e, k⟩ := b3 pos cv hc
      exact ⟨c, e, yes k⟩
  · by_cases h : H1 a = some (LamX.CodeO a q)
    · rw [yes h] at z; cases z; rfl
    · rw [no h] at z; exact r.nt a ps z
theorem Rel.tabsOf {P : Addr} {q : Str} {io : Io [(P, q)]} (r : Rel K io Rv ρ F σ H) : LamX.Tabs [(P, q)] H := fun p hp => by
  have e : p = (P, q) := List.mem_singleton.mp hp
  subst e
  obtain ⟨_, _, _, ps, e1, e2, e3⟩ := r.tab (P, q) (.head _)
  exact ⟨ps, e1, e2, fun pos cv h => let ⟨c, e, k⟩ := e3 pos cv h; ⟨c, e, r.fH _ _ k⟩⟩
end
abbrev lamCxN (X : Cx) (A : Around) (outer : List PySem.Env) (s : Shared) (H : Hp) (E : XK) (scope : Scope) (f c : Addr) : Cx :=
  (LamX.lamCx X A outer s H E scope f c).tr [] fun e s' => wpAny (model X.prog X.w) (A.deeper (LamX.lamEnv X scope s.heap.objs.size f c)) (leaving (LamX.lamEnv X scope s.heap.objs.size f c) e) (fun _ s'' => L2N.CX X.prog X.w outer H s E e s'') (fun e' s'' => L2N.CX X.prog X.w outer H s E e' s'') s'
section
variable {X : Cx} {pins : List (Addr × Obj)} {σ : L2.St} {H : Hp} {s : Shared}
theorem at_lam {A : Around} {outer : List PySem.Env} {E : XK} {scope : Scope} {f c : Addr} {k : Nat} (nd : X.N.Nodup) (wd : X.w = HW.w) (hr : Room k (A.deeper (LamX.lamEnv X scope s.heap.objs.size f c))) : At (lamCxN X A outer s H E scope f c) (wE E) :=
  ⟨rfl, nd, hr.units, L2N.takes_of (E₁ := fun e' s'' => L2N.CX X.prog X.w outer H s E e' s'') rfl rfl rfl rfl, wd⟩
/-- the call of what the def got: the lambda's body runs -/
theorem pe_actN {CXg : CXT} {Eg : XK} {Ng : List Str} {qg : Str} {sg : Scope} {g f c : Addr} {cdg pm ctv : Value} {params : Arguments} {body : Expr} {scope : Scope} {k i : Nat} {a : Str} {pn : List (Addr × Obj)} {xe : Value → Shared → Prop} {W : WX} {E : XK} {tb : TE} {p1 p2 : Pos}
    (I : Inv X pins σ H s) (L : LamX.LamS X.env.scope scope) (hf : s.heap.get? f = some (PySem.W.kla_obj "<lambda>" (X.env.qual ++ "<lambda>") params body scope (cloFrom X.env.cells scope.names []) pm c ctv)) (hfn : H f = none) (hfr : f ∉ frs X.stack)
    (hbind : bindArgs (PySem.W.kla_fn "<lambda>" (X.env.qual ++ "<lambda>") params body scope (cloFrom X.env.cells scope.names []) pm (.ref c) ctv) ⟨[], []⟩ = pure [])
    (tk : L2N.Takes ((cxOf CXg X.prog X.w X.K X.mg X.base Ng qg sg g cdg X.A X.stack s H Eg).tr pn xe) W) (hr : Room (k + 1) (X.A.deeper (envOfC qg sg s.heap.objs.size g cdg)))
    (hbody : ∀ (A : Around) (outer : List PySem.Env) (s : Shared) (H : Hp), Room k (A.deeper (LamX.lamEnv X scope s.heap.objs.size f c)) → PE (lamCxN X A outer s H E scope f c) body tb)
    (hN : Ng[i]? = some a) (hv : Vis sg a) (hd : (a == ("__debug__" : Str)) = false := by decide) (hcd : (a == ("__classdict__" : Str)) = false := by decide) :
    PE ((cxOf CXg X.prog X.w X.K X.mg X.base Ng qg sg g cdg X.A X.stack s H Eg).tr pn xe) (.Call (.Name a p1) [] [] p2)
      (fun σZ HZ Q => (∀ cls d H', E cls d H' → W cls d σZ H') ∧ σZ[i]? = some (some (.ref f)) ∧ HZ c = some (LamX.CodeO c (X.env.qual ++ "<lambda>")) ∧ tb σ HZ Q) := ⟨fun pinsZ sZ σZ HZ Q IZ ⟨hW, hs, hc, ht⟩ => by
  refine wpAny_Call_Name_kw (thn ((pe_var (pos := p1) (i := i) hN hv hd hcd).run pinsZ sZ σZ HZ (fun v H1 => v = .ref f ∧ H1 = HZ) IZ ⟨.ref f, hs, rfl, rfl⟩) fun u s1 ⟨v, H1, I1, r1, ev, eH⟩ => ?_); subst ev
  rw [eH] at I1; obtain rfl : u = Value.ref f := r1
  have of1 := I1.base.keep f _ hf hfn hfr (fun z => nomatch (show f ∈ ([] : List Addr) from z)); refine PySem.W.callWith_F0 ⟨_, _, _, _, of1⟩ ?_
  obtain ⟨⟨oc, vs, t, hoc, hdc, hvc⟩, _, _⟩ := I1.hok c _ hc; have e0 := I1.env0
  have rc : codeAny (model X.prog X.w) (X.A.deeper (envOfC qg sg s.heap.objs.size g cdg)) (.call (.ref f) ⟨[], []⟩) (CR (L2N.CX X.prog X.w) (envOfC qg sg s.heap.objs.size g cdg :: X.stack) X.prog X.w HZ s1 Q E) s1 := by
    refine PySem.W.kla_callFunE hr.depth of1 rfl L.co L.gen rfl ⟨c, oc, vs, t, rfl, hoc, hdc, hvc⟩ (hbind ▸ wpAny_pure (wpAny_newFunctionEnv (fun y hy => (L.own y hy).2) (fun y hy => nomatch hy) (fun h₁ hns hsb => ⟨I1.nolimit.fresh _ hsb, ?_⟩) L.kind))
    have J0 : Inv (LamX.lamCx X (X.A.deeper (envOfC qg sg s.heap.objs.size g cdg)) (envOfC qg sg s.heap.objs.size g cdg :: X.stack) s1 HZ E scope f c) [] σ HZ { s1 with heap := h₁, toks := s1.toks + ([] : List (Str × Value)).length } := LamX.lam_start2 I L e0 hr.hd I1.base hns fun b o e => hsb.extBut b o (Nat.ne_of_lt (Heap.lt_size e)) (Heap.get?_push_of_some _ e)
    have J := J0.toTry (lamCxN X (X.A.deeper (envOfC qg sg s.heap.objs.size g cdg)) (envOfC qg sg s.heap.objs.size g cdg :: X.stack) s1 HZ E scope f c).xe
    exact PySem.W.kla_codeExpr (wpAny_mono ((hbody _ _ s1 HZ (hr.deeper _)).run [] _ _ HZ Q J ht) (fun v s' ⟨w', H', J', rv, q⟩ => ⟨w', H', J'.os, J'.bare, J'.base, J'.hok, rv, q⟩) fun e s' hq => hq)
  refine wpAny_call (codeAny_mono rc fun r s' hq => ?_)
  match r, hq with
  | .error e, hq => exact tk e s' (L2N.XE.of_call I1 hW hq)
  | .ok (.ret u), hq => exact I1.after hq⟩
end
end Dt
set_option Elab.async false
set_option linter.all false
set_option maxRecDepth 100000
set_option maxHeartbeats 4000000
namespace Dt
open PySem PySem.Spec PyProof.Rows L2 HotX L2H
variable [HW]
/-- a def that tells the word of the exception that is handled -/
structure WordAt (P : Program) (w : World) (K : PySem.W.Frag) (mg : Str → Option Value) (base : Heap) (k : Nat) (x : Str) (Good : Addr → Str → Prop) : Prop where
  there : ∃ (f : Addr) (fd : FuncData) (y : Str), mg x = some (.ref f) ∧ PySem.W.keepIn K (.ref f) = true ∧ Binds K fd [y] [] ∧
    ∀ (A : Around) (outer : List PySem.Env) (s : Shared) (H : Hp) (args : Args) (us : List Value) (Q : VK) (p : Addr × Obj) (C : Addr) (wd : Str), RoomH k A → Hot1 A p → PinOk outer H s p → Env0 P w K mg base A outer s H → BindsTo s fd args ([y].zip us) → Vals [.ref p.1] us →
      (∃ dx, Zc (.ref C) dx p.2) → Good C wd → (∀ H', (∀ b o, H b = some o → H' b = some o) → Q (.str wd) H') → codeAny (model P w) A (.call (.ref f) args) (CR CXf outer P w H s Q fun _ _ _ => False) s
/-- .. by its body's derivation -/
theorem word_at {P : Program} {w : World} {K : PySem.W.Frag} {mg : Str → Option Value} {base : Heap} {k m : Nat} {x y : Str} {st : Stmt} {N : List Str} {ea : String → Addr} {Good : Addr → Str → Prop} {W : WX} (F : Fn K mg x st [y]) (S : FnScope N [y] (defScope st)) (hm : N.length = m + 1)
    (h : ∀ (f : Addr) (cd : Value) (A : Around) (outer : List PySem.Env) (s : Shared) (H : Hp) (p : Addr × Obj) (C : Addr) (wd : Str), Hot1 A p → RoomH k (A.deeper (envOfC x (defScope st) s.heap.objs.size f cd)) → ∀ {dx : Option Addr}, Zc (.ref C) dx p.2 → Good C wd →
      ∃ body : SS, DSs ⟨K, ⟨ea, []⟩⟩ (cxH CXf P w K mg base N x (defScope st) f cd A outer s H (fun _ _ _ => False) p) W (defBody st) body ∧ ∃ ρ', body (.fro (.exn p.1) :: List.replicate m .no) = .ok (.rt (.str wd)) ρ') : WordAt P w K mg base (k + 1) x Good := by
  obtain ⟨f, fd, F, mx, hb⟩ := F.there
  refine ⟨f, fd, y, mx, F.kp, hb, fun A outer s H args us Q p C wd hr hot pin e0 b r ⟨dx, hz⟩ g q => run_pin F S hr pin e0 b r rfl fun cd hr' => ?_⟩
  obtain ⟨body, d, ρ', e⟩ := h f cd A outer s H p C wd hot hr' hz g
  refine ⟨_, d, .fro (.exn p.1) :: List.replicate m .no, fun _ => none, H, {}, ⟨(fun a o z => nomatch z), (fun a o z => z), (fun a o z => nomatch z), ?_, fun i c v e1 e2 => ?_, fun i j ci cj di dj pp e1 _ h1 _ _ _ => ?_, fun ip hip => (nomatch hip), fun i d e1 => ?_, fun t ht => (nomatch ht), fun a ps z => nomatch z⟩, ?_⟩
  · unfold L2.start
    simp [hm]
  · cases i with
    | zero =>
      simp [L2.start] at e1 e2
      subst e1 e2
      exact ⟨_, rfl, .exn _⟩
    | succ i =>
      rw [List.getElem?_cons_succ, List.getElem?_replicate] at e1
      split at e1
      · cases e1; trivial
      · cases e1
  · cases i with
    | zero => cases e1; cases h1
    | succ i =>
      rw [List.getElem?_cons_succ, List.getElem?_replicate] at e1
      split at e1
      · cases e1; cases h1
      · cases e1
  · cases i with
    | zero => cases e1
    | succ i =>
      rw [List.getElem?_cons_succ, List.getElem?_replicate] at e1
      split at e1 <;> cases e1
  · rw [e]
    intro v σ' H' F' le rel rp
    cases rp
    exact q H' fun b o z => rel.rH b o z
/-- the value, or what the exception makes -/
def sTried (wd : Exn → Option D) (s : SE) : SE := fun ρ => match s (froOnly ρ) with
  | .ok d _ => .ok d ρ
  | .exc x _ => ofO (wd x) ρ
  | .stuck => .stuck
@[simp] theorem ev_tried (wd : Exn → Option D) (s : SE) (ρ : Env) : sTried wd s ρ = match s (froOnly ρ) with
  | .ok d _ => .ok d ρ
  | .exc x _ => ofO (wd x) ρ
  | .stuck => .stuck := rfl
section
variable {X : Cx} {W : WX}
theorem d_tried {c P CE : Addr} {k kw : Nat} {ea : String → Addr} {xt xw : Str} {tc tw : Str} {te : Str} {stt : Stmt} {Good : Addr → Str → Prop} {wd : Exn → Option D} {params : Arguments} {body : Expr} {scope : Scope} {sb : SE} {p lpos pos p1 p2 p3 p4 p5 p6 p7 p8 p9 p10 : Pos}
    (hu : At X W) (tb : LamX.TabB X.base X.mg c P) (hcd : X.env.code = .ref c) (Ft : Fn X.K X.mg xt stt [tc]) (St : FnScope [tc, te] [tc] (defScope stt)) (hr : Room (k + 2) X.A) (hg : Gl X xt)
    (hbd : defBody stt = [.Try [.Return (some (.Call (.Name tc p1) [] [] p2)) p3] [.ExceptHandler (some (.Name tw p4)) (some te) [.Return (some (.Call (.Name xw p5) [.Name te p6] [] p7)) p8] p9] [] [] p10])
    (hce : X.mg tw = some (.ref CE)) (gce : (defScope stt).names.lookup tw = some .globalImplicit) (gxw : (defScope stt).names.lookup xw = some .globalImplicit) (vtc : (defScope stt).names.lookup tc = some .local) (vte : (defScope stt).names.lookup te = some .local)
    (Wd : WordAt X.prog X.w X.K X.mg X.base kw xw Good) (hkw : kw ≤ k) (hwd : ∀ x d, wd x = some d → PySem.W.exmOne X.K (.ref (ea x.cls)) (.ref CE) = some true ∧ ∃ w, d = .str w ∧ Good (ea x.cls) w)
    (L : LamX.LamS X.env.scope scope) (hdef : defaultsOf params X.env = ([], [])) (hbind : ∀ (q : Str) (cl : List (Str × Addr)) (pm cv ctv : Value), bindArgs (PySem.W.kla_fn "<lambda>" q params body scope cl pm cv ctv) ⟨[], []⟩ = pure [])
    (hbody : ∀ (A : Around) (outer : List PySem.Env) (s : Shared) (H : Hp) (E : XK) (f c' : Addr), Room k (A.deeper (LamX.lamEnv X scope s.heap.objs.size f c')) → DE ⟨X.K, ⟨ea, []⟩⟩ (lamCxN X A outer s H E scope f c') (wE E) body sb)
    (d1 : (xt == ("__debug__" : Str)) = false := by decide) (d2 : (tc == ("__debug__" : Str)) = false := by decide) (d3 : (tc == ("__classdict__" : Str)) = false := by decide) (d4 : (tw == ("__debug__" : Str)) = false := by decide) (d5 : (xw == ("__debug__" : Str)) = false := by decide) (d6 : (te == ("__debug__" : Str)) = false := by decide)
    (d7 : (te == ("__classdict__" : Str)) = false := by decide) :
    DE ⟨X.K, ⟨ea, [(P, X.env.qual ++ "<lambda>")]⟩⟩ X W (.Call (.Name xt p) [.Lambda params body scope lpos] [] pos) (sTried wd sb) := ⟨fun pins s σ H Q I ⟨ρ, F, Rv, io, rel, q⟩ => by
  obtain ⟨g, fdg, Ff, hm, hb⟩ := Ft.there
  obtain ⟨fw, fdw, yw, mw, kpw, bw, runw⟩ := Wd.there
  refine wpAny_Call_Name_kw (ld_glob I hg hm ?_ d1)
  refine PySem.W.callWith_K (h₀ := X.base) I.ok.mod.kin Ff.kp ?_ (by rfl) (by rfl)
  show wpAny _ _ (spliced ((false, eval (.Lambda params body scope lpos) X.env) :: backTo pos (starEach [] X.env))) _ _ s
  have rel : Rel X.K io Rv ρ F σ H := rel
  refine Calls.spliced_cons (LamX.lam_make2 (T := [(P, X.env.qual ++ "<lambda>")]) I tb hcd (.head _) (fun p hp _ => by rw [List.mem_singleton.mp hp]) rel.tabsOf hdef (L.has I.ok) fun f c' pm' ctv H1 s' I1 eN T1 hf hfn hfr hco => ?_)
  refine Calls.spliced_nil ⟨I1.kIn, ?_⟩
  obtain ⟨F1, le1, rel1⟩ := rel.tabled eN T1
  have rel2 := rel1.fros (restOf_apart rel1 none)
  obtain ⟨_, _, _, _, _, _, cdv, _, _, ef, lk, hcg⟩ := Ff.ex
  -- what comes back
  have fin : ∀ {F' H' : Hp} {v : V} {d : D} , FLe F1 F' → Apart F' (restOf F1 H1 none) H' → Rp X.K F' v d → (match sTried wd sb ρ with | .ok d' _ => d' = d | _ => False) → Q v H' := fun {F' H' v d} le ap rp hd => by
    have r3 := rel1.behind le ap
    unfold sTried at q hd
    cases e : sb (froOnly ρ) with
    | stuck => rw [e] at q; exact q.elim
    | ok d' ρ' => rw [e] at q hd; cases hd; exact q v H' F' (le1.trans le) r3 rp
    | exc x ρ' =>
      rw [e] at q hd
      simp only at q hd
      cases e2 : wd x with
      | none => rw [e2] at q; exact q.elim
      | some d' => rw [e2] at q hd; cases hd; exact q v H' F' (le1.trans le) r3 rp
  have rc : codeAny (model X.prog X.w) X.A (.call (.ref g) ⟨[.ref f], []⟩) (CR CXf X.stack X.prog X.w H1 s' Q fun _ _ _ => False) s' := by
    subst ef
    refine LamX.run_ofS (N := [tc, te]) (ps := [tc]) (us := [.ref f]) (vs := [.ref f]) lk hcg St hr I1.env0 (hb s' [.ref f] I1.kIn rfl) (.cons rfl .nil) rfl fun hr' => ?_
    have hbd' : defBody stt = _ := hbd
    rw [hbd']
    refine ⟨_, pss_one (L2N.ps_try_as (X := cxOf CXf X.prog X.w X.K X.mg X.base [tc, te] xt (defScope stt) g cdv X.A X.stack s' H1 fun _ _ _ => False) (i := 1) (n := te) (c := .ref CE) (Wout := fun _ _ _ _ => False)
      (tb := fun W D σZ HZ => ∃ E : XK, (∀ cls d H', E cls d H' → W cls d σZ H') ∧ σZ[0]? = some (some (.ref f)) ∧ HZ c' = some (LamX.CodeO c' (X.env.qual ++ "<lambda>")) ∧ tE ⟨X.K, ⟨ea, []⟩⟩ (wE E) sb σ HZ D.rt)
      (ts := fun a cls d D σ H => ∃ C w, cls = .ref C ∧ Good C w ∧ σ[1]? = some (some (.ref a)) ∧ H a = none ∧ ∀ H', (∀ b o, H b = some o → H' b = some o) → D.rt (.str w) H')
      rfl rfl St.nd rfl vte ⟨gce, d4, .inl hce⟩ takes0N (fun W pn xe tk _ => ?_) (fun a oe cls d pn hz hfl => ?_)), ?_⟩
    · refine ⟨fun pins s2 σ2 H2 D I2 ⟨E, hW, h1, h2, h3⟩ => ?_⟩
      have hp := pe_actN (i := 0) (a := tc) (E := E) (p1 := p1) (p2 := p2) I1 L hf hfn hfr (hbind _ _ _ _ _) tk hr' (fun A outer s H hr2 => hbody A outer s H E f c' hr2) rfl (.inl vtc) d2 d3
      exact (pss_one (ps_ret (pos := p3) hp)).run pins s2 σ2 H2 D I2 ⟨hW, h1, h2, h3⟩
    · refine ⟨fun pins s2 σ2 H2 D I2 ⟨C, w, e1, gd, h1, h2, h3⟩ => ?_⟩
      subst e1
      obtain ⟨vs, hv⟩ := hfl
      have hot : Hot1 ((cxOf CXf X.prog X.w X.K X.mg X.base [tc, te] xt (defScope stt) g cdv X.A X.stack s' H1 fun _ _ _ => False).suite a ((a, oe) :: pn)).A (a, oe) := ⟨rfl, vs, hv, hz.2.2 vs hv⟩
      have hrm : RoomH kw ((cxOf CXf X.prog X.w X.K X.mg X.base [tc, te] xt (defScope stt) g cdv X.A X.stack s' H1 fun _ _ _ => False).suite a ((a, oe) :: pn)).A := by
        have z := (roomH_of hr').mono (show kw ≤ k + 1 by omega)
        exact ⟨z.dp, z.un⟩
      have call : PE ((cxOf CXf X.prog X.w X.K X.mg X.base [tc, te] xt (defScope stt) g cdv X.A X.stack s' H1 fun _ _ _ => False).suite a ((a, oe) :: pn)) (.Call (.Name xw p5) [.Name te p6] [] p7)
          (fun σ H Q => σ[1]? = some (some (.ref a)) ∧ ∀ H', (∀ b o, H b = some o → H' b = some o) → Q (.str w) H') := ⟨fun pins s σ H Q I ⟨h1, h3⟩ => by
        refine wpAny_Call_Name_kw (ld_glob I gxw mw ?_ d5)
        refine PySem.W.callWith_K (h₀ := X.base) I.ok.mod.kin kpw (thn ((pa_cons (pe_var (i := 1) rfl (.inl vte) d6 d7) pa_nil rfl).run p7 pins s σ H (fun vs H1 => vs = [.ref a] ∧ H1 = H) I ⟨_, h1, rfl, rfl⟩) fun us s1 ⟨vs, H1, I1, r, ev, eH⟩ => ⟨I1.kIn, ?_⟩) (by rfl) (by rfl)
        subst ev; rw [eH] at I1
        have P1 := I1.pin (a, oe) (List.mem_append_left _ (.head _))
        have b := bw s1 us I1.kIn (by rw [List.append_nil]; exact r.length.symm)
        rw [List.append_nil] at b
        refine wpAny_call (codeAny_mono (runw _ _ s1 H _ us Q (a, oe) C w hrm hot ⟨P1.1, P1.2.1, fun hm => (List.mem_cons.mp (I1.stkSub a hm)).elim P1.2.2.1 P1.2.2.2.1, P1.2.2.2.2⟩ I1.env0 b r ⟨_, hz.zc⟩ gd h3) fun r s' hq => ?_)
        match r, hq with
        | .ok (.ret u), hq => exact I1.after hq⟩
      exact (pss_one (ps_ret (pos := p8) call)).run pins s2 σ2 H2 D I2 ⟨h1, h3⟩
    · refine ⟨fun cls dd H' => ∃ C w, cls = .ref C ∧ Good C w ∧ PySem.W.exmOne X.K cls (.ref CE) = some true ∧ ∀ H'', (∀ b o, H' b = some o → H'' b = some o) → Q (.str w) H'', fun cls d H' ⟨C, w, e1, gd, em, h3⟩ => ⟨true, em, fun _ a na => ⟨C, w, e1, gd, rfl, na, h3⟩, fun z => nomatch z⟩, rfl, hco, froOnly ρ, F1, restOf F1 H1 none, {}, rel2, ?_⟩
      cases e : sb (froOnly ρ) with
      | stuck => unfold sTried at q; rw [e] at q; exact q.elim
      | ok d ρ' => exact fun v H' F' le r rp => fin le ⟨r.fH, r.rH, r.dj, r.nt⟩ rp (by unfold sTried; rw [e])
      | exc x ρ' =>
        intro cls dd σ' H' F' le r xr
        cases e2 : wd x with
        | none => unfold sTried at q; rw [e] at q; simp only [e2] at q; exact q.elim
        | some d =>
          obtain ⟨em, w, rfl, gd⟩ := hwd x d e2
          obtain ⟨xc, xd⟩ := xr
          refine ⟨ea x.cls, w, xc, gd, by rw [xc]; exact em, fun H'' up => fin (F' := F') (d := .str w) le ⟨fun a o z => up a o (r.fH a o z), fun a o z => up a o (r.rH a o z), r.dj, r.nt⟩ (.str w) ?_⟩
          unfold sTried
          rw [e]
          simp only [e2]
          rfl
  refine wpAny_call (codeAny_mono rc fun r s2 hq => ?_)
  match r, hq with
  | .ok (.ret u), hq => exact I1.after hq⟩
end
end Dt
set_option Elab.async false
set_option linter.all false
set_option maxRecDepth 100000
set_option maxHeartbeats 4000000
namespace Dt
open PySem PySem.Spec PyProof.Rows L2 HotX L2H
variable [HW]
/-- what a class that is raised says; CE: the class of the handler -/
structure ExcD (K : PySem.W.Frag) (C CE : Addr) : Prop where
  e : PySem.W.excIn K C veB "ValueError.__new__" = true
  k : PySem.W.keepIn K (.ref C) = true
  b : PySem.W.subIn K (.ref C) (.type "BaseException") = some true
  t : PySem.W.typeIn K (.ref C) = some (.type "type")
  hg : PySem.W.findIn K (.ref C) "__getattribute__" = some (some (.builtin "BaseException.__getattribute__"))
  hk : PySem.W.findIn K (.ref C) "__getattr__" = some none
  hd : PySem.W.hasDictIn K C = true
  ha : PySem.W.findIn K (.ref C) "__class__" = some (some (.builtin "object.__class__"))
  hn : PySem.W.specialIn K (.builtin "object.__class__") "__get__" = some (some (.builtin "getset_descriptor.__get__"))
  ht : PySem.W.takesIn K (.builtin "object.__class__") = some true
  hm : PySem.W.mroIn K C (.type "object") = some true
  cb : PySem.W.subIn K (.ref CE) (.type "BaseException") = some true
  cd : PySem.W.hasDictIn K CE = true
  ct : PySem.W.typeIn K (.ref CE) = some (.type "type")
  cs : PySem.W.subIn K (.ref C) (.ref CE) = some true
theorem ExcD.c {K : PySem.W.Frag} {C CE : Addr} (h : ExcD K C CE) : ExcC K C := ⟨h.hg, h.hk, h.b, h.hd, h.ha, h.hn, h.ht, h.hm⟩
theorem ExcD.exm {K : PySem.W.Frag} {C CE : Addr} (h : ExcD K C CE) : PySem.W.exmOne K (.ref C) (.ref CE) = some true := PySem.W.exm_ref h.cb h.cd h.ct h.cs
theorem ExcD.kk {K : PySem.W.Frag} {mg : Str → Option Value} {CE : Addr} {n : String} (h : ExcD K (exA K n) CE) (m : mg (Str.ofString n) = some (.ref (exA K n))) : ExcK K mg n := ⟨m, h.e, h.k, h.b, h.t⟩
/-- what the lambdas of a def are called -/
def lamQ (x : Str) (st : Stmt) : Str := (envOfC x (defScope st) 0 0 .none).qual ++ "<lambda>"
/-- the law's promise where its table is empty -/
def spT (K : PySem.W.Frag) (P : Addr) (m : List D → FR) : Sp := fun vs H Q E => ∃ a ns o, vs = [.ref a] ∧ H P = some (.tbl #[]) ∧ SqL K H a (ns.map V.int) ∧ m [.scr ns] = .ok (.bl true) o ∧ ∀ H', Q (.bl true) H'
end Dt
set_option Elab.async false
set_option linter.all false
set_option maxRecDepth 100000
set_option maxHeartbeats 4000000
namespace Dt
open PySem PySem.Spec PyProof.Rows L2
variable [HW]
def keyT (e : Int × Value) : Str := match e.2 with
  | .str x _ => x
  | _ => Str.empty
def GoodT (w : World) (e : Int × Value) : Prop := ∃ x tk, e.2 = Value.str x tk ∧ e.1 = hashStr w x
/-- the set of texts at a: S its members, n their number; its table rises and can be walked -/
def SetS (w : World) (h : Heap) (a : Addr) (S : Str → Bool) (n : Nat) : Prop :=
  ∃ o es ep t, h.get? a = some o ∧ o.ExactSet ∧ o.data = .set es ep t ∧ (∀ e ∈ es.toList, GoodT w e) ∧ (es.toList.map keyT).Nodup ∧ (∀ k, S k = true ↔ k ∈ es.toList.map keyT) ∧ es.size < scanBound ∧ t.fits es.size = true ∧ es.size = n ∧ Ris t.place.toList ∧ (w.params.followText "set-order" = true ∨ t.led = true)
section
variable {P : Program} {w : World} {h h' : Heap} {a : Addr} {S : Str → Bool} {n : Nat}
theorem SetS.at_ (R : SetS w h a S n) (k : ∀ o, h.get? a = some o → h'.get? a = some o) : SetS w h' a S n := let ⟨o, es, ep, t, ho, r⟩ := R; ⟨o, es, ep, t, k o ho, r⟩
end
end Dt
set_option Elab.async false
set_option linter.all false
set_option maxRecDepth 100000
set_option maxHeartbeats 4000000
namespace Dt
open PySem PySem.Spec PyProof.Rows L2
end Dt
set_option Elab.async false
set_option linter.all false
set_option maxRecDepth 100000
set_option maxHeartbeats 4000000
namespace Dt
open PySem PySem.Spec PyProof.Rows L2
variable [HW]
/-- one more text in a rising list -/
def insU (x : Str) : List Str → List Str
  | [] => [x]
  | y :: r => if sLt x y = true then x :: y :: r else if x = y then y :: r else y :: insU x r
/-- the unlike texts, ascending -/
def riseOf (xs : List Str) : List Str := xs.foldl (fun l x => insU x l) []
section
variable {X : Cx} {W : WX} {ex : Exx} {p p2 q pos : Pos}
def sortSetD : D → Option D
  | .lst ds => (strsOf ds).bind fun xs => if xs.length < 64 then some (.lst ((riseOf xs).map D.str)) else none
  | _ => none
def sSortSet (s : SE) : SE := fun ρ => (s ρ).bind fun d ρ' => ofO (sortSetD d) ρ'
@[simp] theorem ev_sortSet (s : SE) (ρ : Env) : sSortSet s ρ = (s ρ).bind fun d ρ' => ofO (sortSetD d) ρ' := rfl
end
end Dt
set_option Elab.async false
set_option linter.all false
set_option maxRecDepth 100000
set_option maxHeartbeats 4000000
namespace Dt
open PySem PySem.Spec PyProof.Rows L2
end Dt
set_option Elab.async false
set_option linter.all false
set_option maxRecDepth 100000
set_option maxHeartbeats 4000000
namespace Dt
open PySem PySem.Spec PyProof.Rows L2
end Dt
set_option Elab.async false
set_option linter.all false
set_option maxRecDepth 100000
set_option maxHeartbeats 4000000
namespace Dt
open PySem PySem.Spec PyProof.Rows L2
variable [HW]
mutual
/-- no dict in it -/
def D.dfree : D → Bool
  | .dct _ _ => false
  | .nd _ _ => false
  | .tup ds => D.dfrees ds
  | .lst ds => D.dfrees ds
  | .arg ds => D.dfrees ds
  | .tal d => d.dfree
  | _ => true
def D.dfrees : List D → Bool
  | [] => true
  | d :: ds => d.dfree && D.dfrees ds
end
/-- the frozen things but p -/
def eraseH (F : Hp) (p : Addr) : Hp := fun a => if a = p then none else F a
theorem erase_ne {F : Hp} {p a : Addr} (h : a ≠ p) : eraseH F p a = F a := if_neg h
theorem erase_same {F : Hp} {p : Addr} : eraseH F p p = none := if_pos rfl
section
variable {K : PySem.W.Frag} {F : Hp} {p : Addr} {od : Obj} {kvs : List (Key × V)}
mutual
theorem Rp.erase (hp : F p = some (.frz od (.dK kvs))) : ∀ {v : V} {d : D}, Rp K F v d → d.dfree = true → Rp K (eraseH F p) v d
  | _, _, .non, _ => .non
  | _, _, .bl b, _ => .bl b
  | _, _, .int i, _ => .int i
  | _, _, .str s, _ => .str s
  | _, _, .tup t r, h => .tup (let ⟨o, e1, e2⟩ := t; ⟨o, e1, by rw [erase_ne (fun z => by subst z; rw [hp] at e2; cases e2)]; exact e2⟩) (Rps.erase hp r (by rw [D.dfree] at h; exact h))
  | _, _, .arg t r, h => .arg (by
      rcases t with (t | ⟨o, t⟩) | t
      · exact .inl (.inl (by rw [erase_ne (fun z => by subst z; rw [hp] at t; cases t)]; exact t))
      · exact .inl (.inr ⟨o, by rw [erase_ne (fun z => by subst z; rw [hp] at t; cases t)]; exact t⟩)
      · exact .inr t) (Rps.erase hp r (by rw [D.dfree] at h; exact h))
  | _, _, .lst t r, h => .lst (by rw [erase_ne (fun z => by subst z; rw [hp] at t; cases t)]; exact t) (Rps.erase hp r (by rw [D.dfree] at h; exact h))
  | _, _, .dct _ _, h => by rw [D.dfree] at h; cases h
  | _, _, .scr t, _ => .scr (by
      rcases t with (t | ⟨o, t⟩) | t
      · exact .inl (.inl (by rw [erase_ne (fun z => by subst z; rw [hp] at t; cases t)]; exact t))
      · exact .inl (.inr ⟨o, by rw [erase_ne (fun z => by subst z; rw [hp] at t; cases t)]; exact t⟩)
      · exact .inr t)
  | _, _, .fn nm, _ => .fn nm
  | _, _, .exn a, _ => .exn a
  | _, _, .xv c t, _ => .xv c (by rw [erase_ne (fun z => by subst z; rw [hp] at t; have t := Option.some.inj t; unfold ExO at t; cases t)]; exact t)
  | _, _, .xm c n t u, _ => .xm c n (by rw [erase_ne (fun z => by subst z; rw [hp] at t; have t := Option.some.inj t; unfold exo at t; cases t)]; exact t) (by rw [erase_ne (fun z => by subst z; rw [hp] at u; have u := Option.some.inj u; unfold exd at u; cases u)]; exact u)
  | _, _, .etup e, _ => .etup e
  | _, _, .tal t r, h => .tal (by rw [erase_ne (fun z => by subst z; rw [hp] at t; cases t)]; exact t) (Rp.erase hp r (by rw [D.dfree] at h; exact h))
  | _, _, .nd _ _ _ _, h => by rw [D.dfree] at h; cases h
theorem Rps.erase (hp : F p = some (.frz od (.dK kvs))) : ∀ {vs : List V} {ds : List D}, Rps K F vs ds → D.dfrees ds = true → Rps K (eraseH F p) vs ds
  | _, _, .nil, _ => .nil
  | _, _, .cons a b, h => by
    rw [D.dfrees, Bool.and_eq_true] at h
    exact .cons (Rp.erase hp a h.1) (Rps.erase hp b h.2)
end
theorem OwnObj.erase (hp : F p = some (.frz od (.dK kvs))) {q : Addr} {o : HO} {d : D} (h : OwnObj K F q o d) (hd : d.dfree = true) : OwnObj K (eraseH F p) q o d := by
  cases d with
  | lst ds =>
    obtain ⟨xs, e, r⟩ := h
    exact ⟨xs, e, r.erase hp (by rw [D.dfree] at hd; exact hd)⟩
  | dct ks ds => rw [D.dfree] at hd; cases hd
  | nd ks ds => rw [D.dfree] at hd; cases hd
  | tal d =>
    obtain ⟨l, dx, v, e, r⟩ := h
    exact ⟨l, dx, v, e, r.erase hp (by rw [D.dfree] at hd; exact hd)⟩
  | _ => exact h
end
end Dt
set_option Elab.async false
set_option linter.all false
set_option maxRecDepth 100000
set_option maxHeartbeats 4000000
namespace Dt
open PySem PySem.Spec PyProof.Rows L2
variable [HW]
def sM1 (g : Str → Str → Option D) (so se : SE) : SE := fun ρ => (so ρ).bind fun d ρ1 => match d with
  | .str a => (se ρ1).bind fun e ρ2 => match e with
    | .str b => ofO (g a b) ρ2
    | _ => .stuck
  | _ => .stuck
@[simp] theorem ev_m1 (g : Str → Str → Option D) (so se : SE) (ρ : Env) : sM1 g so se ρ = (so ρ).bind fun d ρ1 => match d with
  | .str a => (se ρ1).bind fun e ρ2 => match e with
    | .str b => ofO (g a b) ρ2
    | _ => .stuck
  | _ => .stuck := rfl
def sAugI (f : Int → Int → Int) (i : Nat) (se : SE) : SS := fun ρ => match (ρ[i]? : Option Cell) with
  | some (.fro (.int a)) => (se ρ).bind fun e ρ' => match e, (ρ'[i]? : Option Cell) with
    | .int b, some (.fro _) => .ok .nx (ρ'.set i (.fro (.int (f a b))))
    | _, _ => .stuck
  | _ => .stuck
@[simp] theorem ev_augI (f : Int → Int → Int) (i : Nat) (se : SE) (ρ : Env) : sAugI f i se ρ = match (ρ[i]? : Option Cell) with
  | some (.fro (.int a)) => (se ρ).bind fun e ρ' => match e, (ρ'[i]? : Option Cell) with
    | .int b, some (.fro _) => .ok .nx (ρ'.set i (.fro (.int (f a b))))
    | _, _ => .stuck
  | _ => .stuck := rfl
theorem vals_refs : ∀ bs : List Addr, Vals (bs.map V.ref) (bs.map Value.ref)
  | [] => .nil
  | b :: bs => .cons rfl (vals_refs bs)
def sParF (i j : Nat) (sF sE : SE) : SS := fun ρ => (sF ρ).bind fun d ρ1 => (sE ρ1).bind fun e ρ2 => (gOwn i d ρ2).bind fun _ ρ3 => (gSet j e ρ3).bind fun _ ρ4 => .ok .nx ρ4
@[simp] theorem ev_parF (i j : Nat) (sF sE : SE) (ρ : Env) : sParF i j sF sE ρ = (sF ρ).bind fun d ρ1 => (sE ρ1).bind fun e ρ2 => (gOwn i d ρ2).bind fun _ ρ3 => (gSet j e ρ3).bind fun _ ρ4 => .ok .nx ρ4 := rfl
section
variable {ex : Exx} {X : Cx} {W : WX} {pos : Pos}
theorem d_parF {i j : Nat} {x y : Str} {a b : Expr} {sF sE : SE} {px py pt : Pos} {kt k2 pt2} (hu : At X W) (hi : X.N[i]? = some x) (hj : X.N[j]? = some y) (hij : i ≠ j) (hx : X.env.scope.names.lookup x = some .local) (hy : X.env.scope.names.lookup y = some .local)
    (ha : DF (GK X ex) X W a sF) (hb : DE (GK X ex) X W b sE) (hw : swappedStores [.Tuple [.Name x px, .Name y py] kt pt] (.Tuple [a, b] k2 pt2) X.env = pure (some [x, y])) (hs : swapsWithSole [.Tuple [.Name x px, .Name y py] kt pt] (.Tuple [a, b] k2 pt2) pos.line X.env = pure false := by rfl)
    (h1 : starEach [a, b] X.env = (false, eval a X.env) :: starEach [b] X.env := by rfl) (h2 : starEach [b] X.env = (false, eval b X.env) :: starEach [] X.env := by rfl) :
    DS (GK X ex) X W (.Assign [.Tuple [.Name x px, .Name y py] kt pt] (.Tuple [a, b] k2 pt2) pos) (sParF i j sF sE) := wkS (ps_par hu.calm hu.nd hi hj hij hx hy (pa_cons ha (pa_cons hb pa_nil h2) h1) hw hs) fun D σ H ⟨ρ, F, Rv, io, rel, q⟩ => by
  refine ⟨ρ, F, Rv, io, rel, ?_⟩
  rw [ev_parF] at q
  cases e1 : sF ρ with
  | stuck => rw [e1] at q; exact q.elim
  | exc x ρ1 => rw [e1] at q; exact q
  | ok d ρ1 =>
    rw [e1, R.bind_ok] at q
    intro p H1 F1 le1 rel1 ow lo
    obtain ⟨o, ho, oo⟩ := ow.at_
    refine ⟨ρ1, F1, _, io, rel1.keep ho oo ow.nF lo, ?_⟩
    cases e2 : sE ρ1 with
    | stuck => rw [e2] at q; exact q.elim
    | exc x ρ2 => rw [e2] at q; exact fun cls dd σ' H' F' le rel' xr => q cls dd σ' H' F' (le1.trans le) (rel'.resDrop ow.nR).1 xr
    | ok e ρ2 =>
      rw [e2, R.bind_ok] at q
      intro v H2 F2 le2 rel2 rp
      obtain ⟨relD, n1, n2, lo2⟩ := rel2.resDrop ow.nR
      refine ⟨.ref p, v, rfl, ?_⟩
      cases e3 : gOwn i d ρ2 with
      | stuck => rw [e3] at q; exact q.elim
      | exc x ρ3 => unfold gOwn at e3; split at e3 <;> cases e3
      | ok u ρ3 =>
        rw [e3, R.bind_ok] at q
        obtain ⟨hio, rfl⟩ := gOwn_ok e3
        have relS := relD.setOwn (i := i) (p := p) (d := d) ⟨n1, ow.nR, o, n2, oo.mono le2⟩ lo2 hio
        cases e4 : gSet j e (ρ2.set i (.own d)) with
        | stuck => rw [e4] at q; exact q.elim
        | exc x ρ4 => unfold gSet at e4; split at e4 <;> cases e4
        | ok u ρ4 =>
          rw [e4, R.bind_ok] at q
          obtain ⟨h4, rfl⟩ := gSet_ok e4
          exact q _ H2 F2 (le1.trans le2) (relS.setFro rp h4)
end
end Dt
set_option Elab.async false
set_option linter.all false
set_option maxRecDepth 100000
set_option maxHeartbeats 4000000
namespace Dt
open PySem PySem.Spec PyProof.Rows L2 GenW
end Dt
set_option Elab.async false
set_option linter.all false
set_option maxRecDepth 100000
set_option maxHeartbeats 4000000
namespace Dt
open PySem PySem.Spec PyProof.Rows L2 GenW
variable [HW]
section
variable {ex : Exx} {X : Cx} {W : WX} {x nm : Str} {k n : Nat} {g : List D → Option (List D)} {e : Expr} {es : List Expr} {sA : SA} {p pos pos' pn : Pos}
def sListG (n : Nat) (g : List D → Option (List D)) (s : SA) : SE := fun ρ => (s ρ).bind fun ds ρ' => if ds.length = n then (match g ds with
  | some out => .ok (.lst out) ρ'
  | none => .stuck) else .stuck
@[simp] theorem ev_listG (n : Nat) (g : List D → Option (List D)) (s : SA) (ρ : Env) : sListG n g s ρ = (s ρ).bind fun ds ρ' => if ds.length = n then (match g ds with
  | some out => .ok (.lst out) ρ'
  | none => .stuck) else .stuck := rfl
end
end Dt
set_option Elab.async false
set_option linter.all false
set_option maxRecDepth 100000
set_option maxHeartbeats 4000000
namespace Dt
open PySem PySem.Spec PyProof.Rows L2
end Dt
set_option Elab.async false
set_option linter.all false
set_option maxRecDepth 100000
set_option maxHeartbeats 4000000
namespace Dt
open PySem PySem.Spec PyProof.Rows L2 SrtO
end Dt
set_option Elab.async false
set_option linter.all false
set_option maxRecDepth 100000
set_option maxHeartbeats 4000000
namespace Dt
open PySem PySem.Spec PyProof.Rows L2 SrtO
end Dt
set_option Elab.async false
set_option linter.all false
set_option maxRecDepth 100000
set_option maxHeartbeats 4000000
namespace Dt
open PySem PySem.Spec PyProof.Rows L2 SrtO
end Dt
set_option Elab.async false
set_option linter.all false
set_option maxRecDepth 100000
set_option maxHeartbeats 4000000
namespace Dt
open PySem PySem.Spec PyProof.Rows L2 SrtO
variable [HW]
section
variable {X : Cx} {W : WX}
theorem apart_all {F H F' H' : Hp} (hF : FLe F H) (le : FLe F F') (ap : Apart F' (restOf F H none) H') : ∀ {b : Addr} {o : HO}, H b = some o → H' b = some o := fun {b o} e => by
  cases h : F b with
  | some u =>
    have := hF b u h
    rw [e] at this
    cases this
    exact ap.f b _ (le b _ h)
  | none => exact ap.r b o (by unfold restOf; rw [if_pos ⟨h, fun z => nomatch z⟩]; exact e)
end
end Dt
set_option Elab.async false
set_option linter.all false
set_option maxRecDepth 100000
set_option maxHeartbeats 4000000
namespace Dt
open PySem PySem.Spec PyProof.Rows L2
variable [HW]
def spPT (G : Gx) (n : Nat) (g : List D → FR) : Sp := fun vs H Q E => ∃ ds F Rv, vs.length = n ∧ Apart F Rv H ∧ (∀ t ∈ G.ex.tabs, TabOk F Rv H t) ∧ Rps G.K F vs ds ∧ match g ds with
  | .ok d _ => ∀ v H' F', FLe F F' → Apart F' Rv H' → (∀ t ∈ G.ex.tabs, TabOk F' Rv H' t) → Rp G.K F' v d → Q v H'
  | .exc x => ∀ cls dd H' F', FLe F F' → Apart F' Rv H' → (∀ t ∈ G.ex.tabs, TabOk F' Rv H' t) → XR G F' x cls dd H' → E cls dd H'
  | .stuck => False
section
variable {K : PySem.W.Frag} {T : List (Addr × Str)} {io : Io T} {Rv : Hp} {ρ : Env} {F F' : Hp} {σ : L2.St} {H H' : Hp}
/-- what others keep, and one's own objects -/
def OwnsAt (ρ : Env) (σ : L2.St) (a : Addr) : Prop := ∃ (i : Nat) (c : Cell) (d : D), ρ[i]? = some c ∧ c.held = some d ∧ σ[i]? = some (some (V.ref a))
open Classical in
noncomputable def restT (F Rv H : Hp) (ρ : Env) (σ : L2.St) : Hp := fun a => if F a = none ∧ ((∃ o, Rv a = some o) ∨ OwnsAt ρ σ a) then H a else none
theorem restT_le : FLe (restT F Rv H ρ σ) H := fun a o e => by
  unfold restT at e
  split at e
  · exact e
  · cases e
theorem restT_own (r : Rel K io Rv ρ F σ H) {i : Nat} {c : Cell} {d : D} {a : Addr} (h1 : ρ[i]? = some c) (h2 : c.held = some d) (h3 : σ[i]? = some (some (V.ref a))) : OwnAt K F Rv H a d := by
  have q := r.cell i c _ h1 h3
  cases c with
  | no => cases h2
  | fro d => cases h2
  | own d => cases h2; obtain ⟨p, e, q⟩ := q; cases e; exact q
  | io d => cases h2; obtain ⟨p, e, q⟩ := q; cases e; exact q
theorem restT_apart (r : Rel K io Rv ρ F σ H) : Apart F (restT F Rv H ρ σ) H := ⟨r.fH, restT_le, (fun a o e => by
  unfold restT
  rw [if_neg (fun z => by rw [e] at z; cases z.1)]), r.nt⟩
theorem restT_tab (r : Rel K io Rv ρ F σ H) : ∀ t ∈ T, TabOk F (restT F Rv H ρ σ) H t := fun t ht => by
  obtain ⟨q1, q2, q3, ps, q4, q5⟩ := r.tab t ht
  have own_no : ∀ {a : Addr} {o : HO} {d : D}, OwnAt K F Rv H a d → H a = some o → (∀ ps, o ≠ .tbl ps) ∧ ∀ q, o ≠ LamX.CodeO a q := fun {a o d} w e => by
    obtain ⟨o', e', h⟩ := w.at_
    rw [e] at e'
    cases e'
    refine ⟨fun ps z => ?_, fun q => h.nx q⟩
    subst z
    cases d with
    | lst ds => obtain ⟨xs, z, _⟩ := h; cases z
    | dct ks ds => obtain ⟨xs, z, _⟩ := h; cases z
    | nd ks ds => obtain ⟨ob, xs, vs, z, _⟩ := h; unfold AtO at z; cases z
    | tal d => obtain ⟨_, _, _, z, _⟩ := h; cases z
    | _ => exact h
  refine ⟨q1, ?_, ⟨fun a ps z => ?_, fun a q z => ?_⟩, ps, q4, q5⟩
  · unfold restT
    refine if_neg fun z => ?_
    rcases z.2 with ⟨o, z⟩ | ⟨i, c, d, z1, z2, z3⟩
    · rw [q2] at z; cases z
    · exact (own_no (restT_own r z1 z2 z3) q4).1 ps rfl
  · unfold restT at z
    split at z
    · rename_i h
      rcases h.2 with ⟨o, h⟩ | ⟨i, c, d, z1, z2, z3⟩
      · have := r.rH a o h
        rw [z] at this
        cases this
        exact q3.1 a ps h
      · exact (own_no (restT_own r z1 z2 z3) z).1 ps rfl
    · cases z
  · unfold restT at z
    split at z
    · rename_i h
      rcases h.2 with ⟨o, h⟩ | ⟨i, c, d, z1, z2, z3⟩
      · have := r.rH a o h
        rw [z] at this
        cases this
        exact q3.2 a q h
      · exact (own_no (restT_own r z1 z2 z3) z).2 q rfl
    · cases z
theorem Rel.behindT (r : Rel K io Rv ρ F σ H) (le : FLe F F') (ap : Apart F' (restT F Rv H ρ σ) H') (tb : ∀ t ∈ T, TabOk F' (restT F Rv H ρ σ) H' t) : Rel K io Rv ρ F' σ H' := by
  have nF : ∀ {a o}, Rv a = some o → F a = none := fun {a o} e => by
    cases e' : F a with
    | none => rfl
    | some u => have z := r.dj a u e'; rw [e] at z; cases z
  have keep : ∀ {a o}, restT F Rv H ρ σ a = some o → H' a = some o ∧ F' a = none := fun {a o} q => by
    refine ⟨ap.r _ _ q, ?_⟩
    cases e' : F' a with
    | none => rfl
    | some u => have z := ap.d a u e'; rw [q] at z; cases z
  have kR : ∀ {a o}, Rv a = some o → restT F Rv H ρ σ a = some o := fun {a o} e => by
    unfold restT
    rw [if_pos ⟨nF e, .inl ⟨o, e⟩⟩]
    exact r.rH a o e
  refine ⟨ap.f, fun a o e => (keep (kR e)).1, fun a o e => ?_, r.len, fun i c v e1 e2 => ?_, r.inj, r.ios, r.ioc, fun t ht => ?_, ap.nt⟩
  · cases e' : Rv a with
    | none => rfl
    | some u => have z := (keep (kR e')).2; rw [e] at z; cases z
  · have q := r.cell i c v e1 e2
    have own : ∀ {p d}, c.held = some d → v = some (.ref p) → OwnAt K F Rv H p d → OwnAt K F' Rv H' p d := fun {p d} hh hv w => by
      subst hv
      obtain ⟨o, e, h⟩ := w.at_
      have q : restT F Rv H ρ σ p = some o := by
        unfold restT
        rw [if_pos ⟨w.nF, .inr ⟨i, c, d, e1, hh, e2⟩⟩]
        exact e
      obtain ⟨k1, k2⟩ := keep q
      exact ⟨k2, w.nR, o, k1, h.mono le⟩
    cases c with
    | no => trivial
    | fro d => obtain ⟨x, e, q⟩ := q; exact ⟨x, e, q.mono le⟩
    | own d => obtain ⟨p, e, q⟩ := q; exact ⟨p, e, own rfl e q⟩
    | io d => obtain ⟨p, e, q⟩ := q; exact ⟨p, e, own rfl e q⟩
  · obtain ⟨t1, t2, t3, ps, t4, t5⟩ := tb t ht
    obtain ⟨q1, q2, q3, _⟩ := r.tab t ht
    exact ⟨t1, q2, q3, ps, t4, t5⟩
end
section
variable {ex : Exx} {X : Cx} {W : WX} {x : Str} {k n : Nat} {g : List D → FR} {e : Expr} {es : List Expr} {sA : SA} {p pos : Pos}
theorem d_callPT (hu : At X W) (C : Cal X.prog X.w X.K X.mg X.base x k (spPT (GK X ex) n g)) (hr : Room k X.A) (hg : Gl X x)
    (ha : DA (GK X ex) X W (e :: es) sA) (hdb : (x == ("__debug__" : Str)) = false := by decide) (he : starEach (e :: es) X.env = (false, eval e X.env) :: starEach es X.env := by rfl) (hpl : (backTo pos (starEach es X.env)).any (·.1) = false := by rfl) :
    DE (GK X ex) X W (.Call (.Name x p) (e :: es) [] pos) (sCallP n g sA) :=
  let ⟨f, fd, ps, F, hm, hk, hb⟩ := C.there
  wkE (pe_callS (E := WE W) F hr hg hm hk hb (fun σ => L2N.passAt hu.tk σ) ha hdb he hpl) fun σ H Q ⟨ρ, F, Rv, io, rel, q⟩ => by
    refine ⟨ρ, F, Rv, io, rel, ?_⟩
    unfold sCallP at q
    cases e : sA ρ with
    | stuck => rw [e] at q; exact q.elim
    | exc x ρ' => rw [e] at q; exact q
    | ok ds ρ' =>
      rw [e, R.bind_ok] at q
      intro vs H1 F1 le rel1 r
      by_cases hn : ds.length = n
      · rw [if_pos hn] at q
        refine ⟨ds, F1, restT F1 Rv H1 ρ' σ, r.length.trans hn, restT_apart rel1, restT_tab rel1, r, ?_⟩
        cases e2 : g ds with
        | stuck => rw [e2] at q; exact q.elim
        | ok d o => rw [e2] at q; exact fun v H' F' le2 ap tb rp => q v H' F' (le.trans le2) (rel1.behindT le2 ap tb) rp
        | exc x => rw [e2] at q; exact fun cls dd H' F' le2 ap tb xr => q cls dd σ H' F' (le.trans le2) (rel1.behindT le2 ap tb) xr
      · rw [if_neg hn] at q; exact q.elim
end
section
variable {P : Program} {w : World} {K : PySem.W.Frag} {mg : Str → Option Value} {base : Heap}
theorem rel_startT {T : List (Addr × Str)} {F Rv H : Hp} {vs : List V} {ds : List D} {m : Nat} (ap : Apart F Rv H) (tb : ∀ t ∈ T, TabOk F Rv H t) (r : Rps K F vs ds) : Rel K ({} : Io T) Rv (ds.map Cell.fro ++ List.replicate m Cell.no) F (vs.map some ++ List.replicate m none) H := by
  have r0 := rel_start (m := m) (K := K) ap r
  exact ⟨r0.fH, r0.rH, r0.dj, r0.len, r0.cell, r0.inj, fun ip hip => (nomatch hip), (fun i d e => (nomatch fro_held (c := .io d) e)), tb, r0.nt⟩
/-- a def with tables -/
theorem okT {x qual : Str} {st : Stmt} {f : Addr} {fd : FuncData} {N ps : List Str} {k : Nat} {body : SS} (ea : String → Addr) (T : List (Addr × Str)) (F : Fun K x qual st f fd) (S : FnScope N ps (defScope st))
    (h : ∀ (cdv : Value) (A : Around) (outer : List PySem.Env) (s : Shared) (H : Hp) (E : XK), fd.code = cdv → Room k (A.deeper (envOfC qual (defScope st) s.heap.objs.size f cdv)) →
      DSs ⟨K, ⟨ea, T⟩⟩ (cxOf (L2N.CX P w) P w K mg base N qual (defScope st) f cdv A outer s H E) (wE E) (defBody st) body) : FnOk P w K mg base (L2N.CX P w) (k + 1) f fd ps (spPT ⟨K, ⟨ea, T⟩⟩ ps.length (runP N.length ps.length body)) := by
  obtain ⟨_, _, _, _, _, _, cd, _, _, e, l, c⟩ := F.ex
  subst e
  refine fn_of l c S (fun vs H Q E ⟨_, _, _, hl, _⟩ => hl) fun A outer s H vs Q E hr ⟨ds, F0, Rv, hl, ap, tb, r, q⟩ => ⟨_, h cd A outer s H E rfl hr, ?_⟩
  have e0 : L2.start N vs = vs.map some ++ List.replicate (N.length - ps.length) none := by unfold L2.start; rw [hl]
  rw [e0]
  refine ⟨_, F0, Rv, {}, rel_startT ap tb r, ?_⟩
  unfold runP at q
  cases e : body (ds.map Cell.fro ++ List.replicate (N.length - ps.length) Cell.no) with
  | stuck => rw [e] at q; exact q.elim
  | exc x ρ' => rw [e] at q; exact fun cls dd σ' H' F' le rel xr => q cls dd H' F' le ⟨rel.fH, rel.rH, rel.dj, rel.nt⟩ rel.tab xr
  | ok fl ρ' =>
    rw [e] at q
    cases fl with
    | nx => exact fun σ' H' F' le rel => q _ H' F' le ⟨rel.fH, rel.rH, rel.dj, rel.nt⟩ rel.tab .non
    | bk => exact q.elim
    | ct => exact q.elim
    | rt d => exact fun v σ' H' F' le rel rp => q v H' F' le ⟨rel.fH, rel.rH, rel.dj, rel.nt⟩ rel.tab rp
end
end Dt
set_option Elab.async false
set_option linter.all false
set_option maxRecDepth 100000
set_option maxHeartbeats 4000000
namespace Dt
open PySem PySem.Spec PyProof.Rows L2
variable [HW]
section
variable {P : Program} {w : World} {K : PySem.W.Frag} {mg : Str → Option Value} {base : Heap}
theorem law_T2 {x y q0 : Str} {st : Stmt} {fa Tb : Addr} {fd : FuncData} {N : List Str} {k : Nat} {ea : String → Addr} {body : SS} (F : Fun K x x st fa fd) (S : FnScope N [y] (defScope st))
    (h : ∀ (cdv : Value) (A : Around) (outer : List PySem.Env) (s : Shared) (H : Hp) (E : XK), Room k (A.deeper (envOfC x (defScope st) s.heap.objs.size fa cdv)) →
      DSs ⟨K, ⟨ea, [(Tb, q0)]⟩⟩ (cxOf (L2N.CX P w) P w K mg base N x (defScope st) fa cdv A outer s H E) (wE E) (defBody st) body) :
    FnOk P w K mg base (L2N.CX P w) (k + 1) fa fd [y] (spT K Tb (runP N.length 1 body)) := by
  obtain ⟨_, _, _, _, _, _, cd, _, _, e, l, c⟩ := F.ex
  subst e
  refine fn_of l c S (fun vs H Q E ⟨a, _, _, e, _⟩ => by rw [e]; rfl) fun A outer s H vs Q E hr ⟨a, ns, o, ev, hT, hS, hm, q⟩ => ⟨_, h cd A outer s H E hr, ?_⟩
  subst ev
  classical
  let F : Hp := fun b => if ∃ u, H b = some u ∧ Lone u = false then none else H b
  have hF : ∀ {b u}, H b = some u → Lone u = true → F b = some u := fun {b u} e n => (if_neg (fun ⟨u', z, y⟩ => by rw [e] at z; cases z; rw [n] at y; cases y)).trans e
  have fH : FLe F H := fun b u e => by
    by_cases z : ∃ u, H b = some u ∧ Lone u = false
    · rw [show F b = none from if_pos z] at e; cases e
    · rw [show F b = H b from if_neg z] at e; exact e
  have nt : NoTb F := fun b u e => by
    cases l : Lone u with
    | true => rfl
    | false =>
      have z : F b = none := if_pos ⟨u, fH b _ e, l⟩
      rw [z] at e; cases e
  have sF : SqL K F a (ns.map V.int) := by
    rcases hS with (r | ⟨o, r⟩) | r
    · exact .inl (.inl (hF r rfl))
    · exact .inl (.inr ⟨o, hF r rfl⟩)
    · exact .inr r
  have e0 : L2.start N [.ref a] = [V.ref a].map some ++ List.replicate (N.length - 1) none := rfl
  rw [e0]
  have rp : Rps K F [V.ref a] [.scr ns] := .cons (.scr sF) .nil
  refine ⟨[D.scr ns].map Cell.fro ++ List.replicate (N.length - 1) Cell.no, F, fun _ => none, {}, rel_startT (m := N.length - 1) (K := K) (Rv := fun _ => none) ⟨fH, (fun a o z => nomatch z), (fun _ _ _ => rfl), nt⟩ (fun t ht => ?_) rp, ?_⟩
  · have et : t = (Tb, q0) := List.mem_singleton.mp ht
    subst et
    exact ⟨if_pos ⟨_, hT, rfl⟩, rfl, ⟨(fun a ps z => nomatch z), fun a q z => nomatch z⟩, #[], hT, trivial, fun pos cv z => by simp [codeAmong] at z⟩
  · unfold runP at hm
    have hm : (match body ([D.scr ns].map Cell.fro ++ List.replicate (N.length - 1) Cell.no) with | .ok (.rt d) _ => FR.ok d [] | .ok .nx _ => .ok .non [] | .exc x _ => .exc x | _ => .stuck) = .ok (.bl true) o := hm
    cases e : body ([D.scr ns].map Cell.fro ++ List.replicate (N.length - 1) Cell.no) with
    | stuck => rw [e] at hm; cases hm
    | exc x ρ' => rw [e] at hm; cases hm
    | ok fl ρ' =>
      rw [e] at hm
      cases fl with
      | rt d => cases hm; exact fun v σ' H' F' le rel rp => by cases rp; exact q H'
      | nx => cases hm
      | bk => cases hm
      | ct => cases hm
end
open LamX in
theorem own_of {l : PySem.W.OpenLaw} {n k : Nat} {q : Program} {loose : List Str} {XP : (Str → Option Value) → Heap → Prop} {YP : World → Heap → Prop} {d : DefRec} {K : Params → PySem.W.Frag} {CX : World → CXT} {x dn : Str}
    (hn : l.most = some n) (hn2 : n ≤ sizeLine) (hdf : d.params.defaults = []) (hr : Room k callerA) (hrec : ((recsOf q).any fun e => e.name == dn) = true) (hY : ∀ (w : World) (h : Heap), YP w h → (K w.params).In h)
    (F : ∀ (w : World) (mg : Str → Option Value) (fa : Addr) (h : Heap), YP w h → (K w.params).In h → h.Ns mainGlobals mg → mg d.name = some (.ref fa) → (∀ fr, mg dn = some (.ref fr) → OwnTab (K w.params) fr h) → LawAtS l w (K w.params) (CX w) k n x mg fa h)
    (hCX : ∀ (w : World) (H : Hp) (s : Shared) (e : Value) (s' : Shared), CX w [] H s (fun _ _ _ => False) e s' → False) :
    PySem.W.WalkO q loose XP YP l.row.toRowW d [] (fun f vs => PySem.call f vs) := by
  refine Att.attach_callB hn hdf fun w s₀ s₁ mg mb fa o pm cd doc a vs ns G Y ho hd hcd hmg hobj hints hlen hbits hg => ?_
  have KX := hY w _ Y
  obtain ⟨fd, cs, sp, hT, nT, C, hb, hsp, hF⟩ := F w mg fa _ Y KX G.T.g hmg fun fr hfr c P o1 fd1 e dd vs1 sl k1 k2 k3 k4 k5 => by
    obtain ⟨dL, hm, hn1⟩ := List.any_eq_true.mp hrec
    have hn2 : dL.name = dn := beq_iff_eq.mp hn1
    obtain ⟨a', o', fd', c', P', h1, h2, h3, h4, _, ⟨oc, vc, e1, _, e3, e4⟩, hP⟩ := G.T.tab dL hm
    have q1 : some (Value.ref a') = some (.ref fr) := (hn2 ▸ h1).symm.trans hfr
    cases q1
    cases (KX _ _ k1).symm.trans h2
    cases k2.symm.trans h3
    cases k3.symm.trans h4
    cases (KX _ _ k4).symm.trans e1
    cases e3
    cases k5.symm.trans e4
    exact hP
  exact law_callTs KX G.T.g G.T.b G.T.builtins G.T.nolimit hg hT nT C G.T.bmain hobj hints (Nat.le_trans hlen hn2) hr hF hb (fun H hH hS => hsp H a ns hlen hbits hH hS) fun H e s' => hCX w H s₁ e s'
theorem walkT2 {xp dn : Str} {l : PySem.W.OpenLaw} {q : Program} {loose : List Str} {XP : (Str → Option Value) → Heap → Prop} {YP : World → Heap → Prop} {d : DefRec} {K : Params → PySem.W.Frag} {k : Nat} {m : List D → FR} (hn : l.most = some 63) (hdf : d.params.defaults = []) (hr : Room k callerA)
    (hrec : ((recsOf q).any fun e => e.name == dn) = true) (hY : ∀ (w : World) (h : Heap), YP w h → (K w.params).In h)
    (F : ∀ (w : World) (mg : Str → Option Value) (fa : Addr) (h : Heap), (K w.params).In h → h.Ns mainGlobals mg → mg d.name = some (.ref fa) →
      ∃ (fd fdr : FuncData) (fr c P : Addr) (o1 : Obj) (e : Value) (dd : Option Addr) (vs : Array Value) (sl : Array (Option Value)), mg dn = some (.ref fr) ∧ (K w.params).lookup fr = some o1 ∧ o1.data = .func fdr ∧ fdr.code = .ref c ∧ (K w.params).lookup c = some ⟨e, dd, .fields vs, sl⟩ ∧ vs[11]? = some (.ref P) ∧
        PySem.W.codeHdIn (K w.params) c P = true ∧ (K w.params).lookup P = none ∧ (∀ (s : Shared) (u : Value), BindsTo s fd ⟨[u], []⟩ [(xp, u)]) ∧
        ∀ base : Heap, (K w.params).In base → base.Ns mainGlobals mg → LamX.TabB base mg c P → FnOk l.prog w (K w.params) mg base (L2N.CX l.prog w) k fa fd [xp] (spT (K w.params) P m))
    (plain : ∀ ns : List Int, ns.length ≤ 63 → (∀ z ∈ ns, Builtin.Int.intBits z ≤ 1048576) → ∃ o, m [.scr ns] = .ok (.bl true) o) :
    PySem.W.WalkO q loose XP YP l.row.toRowW d [] (fun f vs => PySem.call f vs) :=
  own_of (n := 63) (k := k) (x := xp) (dn := dn) (CX := fun w => L2N.CX l.prog w) hn (by decide) hdf hr hrec hY (fun w mg fa h Y KX G hmg own => by
    obtain ⟨fd, fdr, fr, c, P, o1, e, dd, vs, sl, k0, k1, k2, k3, k4, k5, k6, k7, hb, hF⟩ := F w mg fa h KX G hmg
    refine ⟨fd, [(c, P)], spT (K w.params) P m, fun p hp => ?_, fun p hp => ?_, fun p hp => ?_, hb, fun H a ns hl hbits hT hS => ?_, fun base kb gb hTB => hF base kb gb (hTB (c, P) (.head _))⟩
    · rw [List.mem_singleton.mp hp]; exact own fr k0 c P o1 fdr e dd vs sl k1 k2 k3 k4 k5
    · rw [List.mem_singleton.mp hp]; exact k7
    · rw [List.mem_singleton.mp hp]; exact PySem.W.codeHd_of_K KX k6
    · obtain ⟨o, z⟩ := plain ns hl hbits
      exact ⟨a, ns, o, rfl, hT (c, P) (.head _), hS, z, fun _ => rfl⟩) fun w H s e s' z => by
    obtain ⟨_, _, _, _, _, _, _, _, _, _, _, _, z⟩ := z
    exact z
end Dt
set_option Elab.async false
set_option linter.all false
set_option maxRecDepth 100000
set_option maxHeartbeats 4000000
namespace Dt
open PySem PySem.Spec PyProof.Rows L2
end Dt
set_option Elab.async false
set_option linter.all false
set_option maxRecDepth 100000
set_option maxHeartbeats 4000000
namespace Dt
open PySem PySem.Spec PyProof.Rows L2
end Dt
set_option Elab.async false
set_option linter.all false
set_option maxRecDepth 100000
set_option maxHeartbeats 4000000
namespace Dt
open PySem PySem.Spec PyProof.Rows L2
variable [HW]
/-- a def with n parameters and one that is given by name alone, else it is False -/
structure CalK (P : Program) (w : World) (K : PySem.W.Frag) (mg : Str → Option Value) (base : Heap) (x : Str) (k n : Nat) (kw : Str) (ea : String → Addr) (m : List D → FR) : Prop where
  there : ∃ f fd ps, FnOk P w K mg base (L2N.CX P w) k f fd ps (spP ⟨K, ⟨ea, []⟩⟩ (n + 1) m) ∧ mg x = some (.ref f) ∧ PySem.W.keepIn K (.ref f) = true ∧ (∃ ds, Vals [.bl false] ds ∧ Binds K fd ps ds) ∧ KBn K fd ps n [kw] (fun us ws => us ++ ws) (fun vs zs => vs ++ zs)
theorem CalK.mono {P : Program} {w : World} {K : PySem.W.Frag} {mg : Str → Option Value} {base : Heap} {x kw : Str} {j k n : Nat} {ea : String → Addr} {m : List D → FR} (C : CalK P w K mg base x j n kw ea m) (h : j ≤ k) : CalK P w K mg base x k n kw ea m := by
  obtain ⟨f, fd, ps, F, r⟩ := C.there
  exact ⟨f, fd, ps, F.mono h, r⟩
/-- called without it -/
def sCallK0 (n : Nat) (m : List D → FR) (s : SA) : SE := fun ρ => (s ρ).bind fun ds ρ' => if ds.length = n then endP (m (ds ++ [.bl false])) ρ' else .stuck
@[simp] theorem ev_callK0 (n : Nat) (m : List D → FR) (s : SA) (ρ : Env) : sCallK0 n m s ρ = (s ρ).bind fun ds ρ' => if ds.length = n then endP (m (ds ++ [.bl false])) ρ' else .stuck := rfl
/-- .. with it -/
def sCallK1 (n : Nat) (m : List D → FR) (s : SA) (sk : SE) : SE := fun ρ => (s ρ).bind fun ds ρ1 => (sk ρ1).bind fun z ρ2 => if ds.length = n then endP (m (ds ++ [z])) ρ2 else .stuck
@[simp] theorem ev_callK1 (n : Nat) (m : List D → FR) (s : SA) (sk : SE) (ρ : Env) : sCallK1 n m s sk ρ = (s ρ).bind fun ds ρ1 => (sk ρ1).bind fun z ρ2 => if ds.length = n then endP (m (ds ++ [z])) ρ2 else .stuck := rfl
end Dt
set_option Elab.async false
set_option linter.all false
set_option maxRecDepth 100000
set_option maxHeartbeats 400000
namespace Dt
open PySem PySem.Spec PyProof.Rows L2 NdefX
end Dt
set_option Elab.async false
set_option linter.all false
set_option maxRecDepth 100000
set_option maxHeartbeats 1000000
namespace Dt
open PySem PySem.Spec PyProof.Rows L2
variable [HW]
/-- what the class says of its instances, of CE above it -/
structure ExcM (K : PySem.W.Frag) (C CE : Addr) : Prop where
  b : PySem.W.subIn K (.ref C) (.type "BaseException") = some true
  hg : PySem.W.findIn K (.ref C) "__getattribute__" = some (some (.builtin "BaseException.__getattribute__"))
  hk : PySem.W.findIn K (.ref C) "__getattr__" = some none
  hd : PySem.W.hasDictIn K C = true
  ha : PySem.W.findIn K (.ref C) "__class__" = some (some (.builtin "object.__class__"))
  hn : PySem.W.specialIn K (.builtin "object.__class__") "__get__" = some (some (.builtin "getset_descriptor.__get__"))
  ht : PySem.W.takesIn K (.builtin "object.__class__") = some true
  hm : PySem.W.mroIn K C (.type "object") = some true
  cb : PySem.W.subIn K (.ref CE) (.type "BaseException") = some true
  cd : PySem.W.hasDictIn K CE = true
  ct : PySem.W.typeIn K (.ref CE) = some (.type "type")
  cs : PySem.W.subIn K (.ref C) (.ref CE) = some true
theorem ExcM.c {K : PySem.W.Frag} {C CE : Addr} (h : ExcM K C CE) : ExcC K C := ⟨h.hg, h.hk, h.b, h.hd, h.ha, h.hn, h.ht, h.hm⟩
theorem ExcM.exm {K : PySem.W.Frag} {C CE : Addr} (h : ExcM K C CE) : PySem.W.exmOne K (.ref C) (.ref CE) = some true := PySem.W.exm_ref h.cb h.cd h.ct h.cs
def clsBody : Stmt → List Stmt
  | .ClassDef _ _ _ b _ _ _ _ _ _ _ => b
  | _ => []
end Dt
set_option Elab.async false
set_option linter.all false
set_option maxRecDepth 100000
set_option maxHeartbeats 1000000
namespace Dt
open PySem PySem.Spec PyProof.Rows L2
end Dt
set_option Elab.async false
set_option linter.all false
set_option maxRecDepth 100000
set_option maxHeartbeats 4000000
namespace Dt
open PySem PySem.Spec PyProof.Rows L2 HotX L2H
variable [HW]
/-- X("m"): an error made, not raised -/
def sXv (n : String) : SE := fun ρ => .ok (.xv (Str.ofString n)) ρ
@[simp] theorem ev_xv (n : String) (ρ : Env) : sXv n ρ = .ok (.xv (Str.ofString n)) ρ := rfl
end Dt
set_option Elab.async false
set_option linter.all false
set_option maxRecDepth 100000
set_option maxHeartbeats 4000000
namespace Dt
open PySem PySem.Spec PyProof.Rows L2 NdefX HotX L2H
variable [HW]
/-- X(e), e comes to n: an error made, not raised -/
def sXm (x : String) (n : Int) (se : SE) : SE := fun ρ => (se ρ).bind fun d ρ' => match d with
  | .int i => if i = n then .ok (.xm (Str.ofString x) n) ρ' else .stuck
  | _ => .stuck
@[simp] theorem ev_xm (x : String) (n : Int) (se : SE) (ρ : Env) : sXm x n se ρ = (se ρ).bind fun d ρ' => match d with
  | .int i => if i = n then .ok (.xm (Str.ofString x) n) ρ' else .stuck
  | _ => .stuck := rfl
end Dt
set_option Elab.async false
set_option linter.all false
set_option maxRecDepth 100000
set_option maxHeartbeats 4000000
namespace Dt
open PySem PySem.Spec PyProof.Rows L2 NdefX HotX L2H
variable [HW]
/-- the class of an error -/
def D.xcls : D → Option Str
  | .xv c => some c
  | .xm c _ => some c
  | _ => none
/-- isinstance(e, T): the table tells it of each class -/
def sIsX (tb : Str → Option Bool) (se : SE) : SE := fun ρ => (se ρ).bind fun d ρ' => match d.xcls with
  | some c => match tb c with
    | some b => .ok (.bl b) ρ'
    | none => .stuck
  | none => .stuck
@[simp] theorem ev_isX (tb : Str → Option Bool) (se : SE) (ρ : Env) : sIsX tb se ρ = (se ρ).bind fun d ρ' => match d.xcls with
  | some c => (match tb c with
    | some b => .ok (.bl b) ρ'
    | none => .stuck)
  | none => .stuck := rfl
end Dt
set_option Elab.async false
set_option linter.all false
set_option maxRecDepth 100000
set_option maxHeartbeats 4000000
namespace Dt
open PySem PySem.Spec PyProof.Rows L2 NdefX HotX L2H
variable [HW]
/-- e.most: the classes cs have been looked at -/
def sXMost (cs : List Str) (se : SE) : SE := fun ρ => (se ρ).bind fun d ρ' => match d with
  | .xm c n => if c ∈ cs then .ok (.int n) ρ' else .stuck
  | _ => .stuck
@[simp] theorem ev_xmost (cs : List Str) (se : SE) (ρ : Env) : sXMost cs se ρ = (se ρ).bind fun d ρ' => match d with
  | .xm c n => if c ∈ cs then .ok (.int n) ρ' else .stuck
  | _ => .stuck := rfl
end Dt
set_option Elab.async false
set_option linter.all false
set_option maxRecDepth 100000
set_option maxHeartbeats 4000000
namespace Dt
open PySem PySem.Spec PyProof.Rows L2 NdefX HotX L2H
variable [HW]
def numOk (l : Nat) (i : Int) : Bool := decide (i.natAbs.log2 < 1920 ∧ l + (Str.ofString (toString i)).length ≤ sizeLine)
/-- X(e): an error made, not raised; l: how long its message's first part is -/
def sXmA (x : String) (l : Nat) (se : SE) : SE := fun ρ => (se ρ).bind fun d ρ' => match d with
  | .int i => if numOk l i = true then .ok (.xm (Str.ofString x) i) ρ' else .stuck
  | _ => .stuck
@[simp] theorem ev_xmA (x : String) (l : Nat) (se : SE) (ρ : Env) : sXmA x l se ρ = (se ρ).bind fun d ρ' => match d with
  | .int i => if numOk l i = true then .ok (.xm (Str.ofString x) i) ρ' else .stuck
  | _ => .stuck := rfl
end Dt
set_option Elab.async false
set_option linter.all false
set_option maxRecDepth 100000
set_option maxHeartbeats 4000000
namespace Dt
open PySem PySem.Spec PyProof.Rows L2
variable [HW]
/-- where the class lies -/
abbrev TC (K : PySem.W.Frag) : Addr := fnA K "Tally"
/-- what is written of it -/
structure TalC (K : PySem.W.Frag) : Prop where
  cl : Cls K (TC K)
  nr : NoAttr K (TC K) "row"
/-- its place among the types -/
structure TalI (K : PySem.W.Frag) : Prop where
  ca : PySem.W.findIn K (.ref (TC K)) "__class__" = some (some (.builtin "object.__class__"))
  cn : PySem.W.specialIn K (.builtin "object.__class__") "__get__" = some (some (.builtin "getset_descriptor.__get__"))
  ct : PySem.W.takesIn K (.builtin "object.__class__") = some true
  cm : PySem.W.mroIn K (TC K) (.type "object") = some true
  yes : PySem.W.kitOne K (.ref (TC K)) (.ref (TC K)) = some true
  n1 : PySem.W.kitOne K (.type "NoneType") (.ref (TC K)) = some false
  n2 : PySem.W.kitOne K (.type "bool") (.ref (TC K)) = some false
  n3 : PySem.W.kitOne K (.type "int") (.ref (TC K)) = some false
  n4 : PySem.W.kitOne K (.type "str") (.ref (TC K)) = some false
  n5 : PySem.W.kitOne K (.type "tuple") (.ref (TC K)) = some false
  n6 : PySem.W.kitOne K (.type "list") (.ref (TC K)) = some false
  n7 : PySem.W.kitOne K (.type "dict") (.ref (TC K)) = some false
theorem TalI.no {K : PySem.W.Frag} (T : TalI K) {d : D} (h : d.isFn = false) : PySem.W.kitOne K (.type (tyN d)) (.ref (TC K)) = some false := by
  cases d with
  | non => exact T.n1
  | bl _ => exact T.n2
  | int _ => exact T.n3
  | str _ => exact T.n4
  | tup _ => exact T.n5
  | arg _ => exact T.n5
  | etup => exact T.n5
  | lst _ => exact T.n6
  | scr _ => exact T.n6
  | dct _ _ => exact T.n7
  | _ => cases h
section
variable {K : PySem.W.Frag} {F H : Hp} {v : V} {d : D}
theorem Vw.tal (fh : FLe F H) (h : Vw K F H v (.tal d)) : ∃ a dx x, v = .ref a ∧ H a = some (.ins (TC K) dx [("row", x)]) ∧ Rp K F x d := by
  rcases h with h | ⟨p, o, e, h1, h2⟩
  · cases h with
    | tal t r => exact ⟨_, _, _, rfl, fh _ _ t, r⟩
  · obtain ⟨_, dx, x, rfl, r⟩ := h2
    exact ⟨p, dx, x, e, h1, r⟩
end
section
variable {ex : Exx} {X : Cx} {W : WX} {a e o : Expr} {es : List Expr} {p pos apos : Pos} {so sa : SO} {se : SE} {sA : SA}
def sRow (so : SO) : SE := fun ρ => (so ρ).bind fun o ρ' => match o.get ρ' with
  | some (.tal d) => .ok d ρ'
  | _ => .stuck
theorem d_row (T : TalC X.K) (ho : DO (GK X ex) X W e so) (hb : attributeBase e "row" X.env (eval e X.env) = eval e X.env := by rfl) : DE (GK X ex) X W (.Attribute e "row" pos) (sRow so) :=
  wkE (pe_fld ho hb) fun σ H Q ⟨ρ, F, Rv, io, rel, q⟩ => by
    refine ⟨ρ, F, Rv, io, rel, ?_⟩
    unfold sRow at q
    cases e1 : so ρ with
    | stuck => rw [e1] at q; exact q.elim
    | exc x ρ' => rw [e1] at q; exact q
    | ok o ρ' =>
      rw [e1, R.bind_ok] at q
      intro v H' F' le rel' ok
      cases e2 : o.get ρ' with
      | none => rw [e2] at q; exact q.elim
      | some d0 =>
        rw [e2] at q
        cases d0 with
        | tal d =>
          obtain ⟨a, dx, x, rfl, ha, rx⟩ := (rel'.view (G := GK X ex) ok e2).tal rel'.fH
          exact ⟨a, _, dx, _, x, rfl, ha, T.cl, T.nr, by rfl, q x H' F' le rel' rx⟩
        | _ => exact q.elim
def sRowSet (i : Nat) (s : SE) : SS := fun ρ => (s ρ).bind fun d ρ' => match held ρ' i with
  | some (.tal _) => .ok .nx (put ρ' i (.tal d))
  | _ => .stuck
theorem d_rowSet {i : Nat} (T : TalC X.K) (ho : PE X o (tVar i)) (hv : DE (GK X ex) X W e se) (hs : swapsWith e (some (.Attribute o "row" apos)) pos.line X.env = pure false := by rfl) :
    DS (GK X ex) X W (.Assign [.Attribute o "row" apos] e pos) (sRowSet i se) :=
  wkS (ps_fld ho hv hs) fun D σ H ⟨ρ, F, Rv, io, rel, q⟩ => by
    refine ⟨ρ, F, Rv, io, rel, ?_⟩
    unfold sRowSet at q
    cases e1 : se ρ with
    | stuck => rw [e1] at q; exact q.elim
    | exc x ρ' => rw [e1] at q; exact q
    | ok d ρ' =>
      rw [e1, R.bind_ok] at q
      intro v H' F' le rel' rv
      cases e2 : held ρ' i with
      | none => rw [e2] at q; exact q.elim
      | some d0 =>
        rw [e2] at q
        cases d0 with
        | tal d1 =>
          obtain ⟨p, ob, h1, h2, ⟨l, dx, x, rfl, rx⟩, h3⟩ := put_own (G := GK X ex) (d' := .tal d) rel' e2
          refine ⟨.ref p, h1, p, _, dx, _, rfl, h2, T.cl, T.nr, by simp, ?_⟩
          exact q σ _ F' le (h3 _ ⟨l, dx, v, by simp [putF], rv⟩)
        | _ => exact q.elim
def isTal : D → Option Bool
  | .tal _ => some true
  | d => if d.isFn = true then none else some false
def sIsT (s : SO) : SE := fun ρ => (s ρ).bind fun o ρ' => ofO (((o.get ρ').bind isTal).map D.bl) ρ'
theorem d_isT {q : Pos} (T : TalC X.K) (J : TalI X.K) (mT : X.mg "Tally" = some (.ref (TC X.K))) (hg : Gl X "isinstance") (hm : X.mg "isinstance" = none) (gt : Gl X "Tally") (ha : DO (GK X ex) X W a sa)
    (he : starEach (a :: (.Name "Tally" q) :: []) X.env = (false, eval a X.env) :: starEach ((.Name "Tally" q) :: []) X.env := by rfl) (hpl : (backTo pos (starEach ((.Name "Tally" q) :: []) X.env)).any (·.1) = false := by rfl) (hs2 : starEach ((.Name "Tally" q) :: []) X.env = (false, eval (.Name "Tally" q) X.env) :: starEach [] X.env := by rfl) :
    DE (GK X ex) X W (.Call (.Name "isinstance" p) (a :: (.Name "Tally" q) :: []) [] pos) (sIsT sa) :=
  wkE (isi_gl hg hm call_isi (pa_cons ha (pa_cons (pe_glob (v := .ref (TC X.K)) gt mT rfl (by decide)) pa_nil hs2) he) he hpl) fun σ H Q ⟨ρ, F, Rv, io, rel, q⟩ => by
    refine ⟨ρ, F, Rv, io, rel, ?_⟩
    unfold sIsT at q
    cases e1 : sa ρ with
    | stuck => rw [e1] at q; exact q.elim
    | exc x ρ' => rw [e1] at q; exact q
    | ok o ρ' =>
      rw [e1, R.bind_ok] at q
      intro v H' F' le rel' ok
      cases e2 : o.get ρ' with
      | none => rw [e2] at q; exact q.elim
      | some d =>
        rw [e2] at q
        have vw := rel'.view (G := GK X ex) ok e2
        cases d with
        | tal d =>
          obtain ⟨a, dx, x, rfl, ha, rx⟩ := vw.tal rel'.fH
          exact ⟨.ref a, .ref (TC X.K), .ref (TC X.K), .ref (TC X.K), true, rfl, .own _, .base (.ins ha T.cl J.ca J.cn J.ct J.cm), J.yes, q _ H' F' le rel' (.bl _)⟩
        | fn _ => exact q.elim
        | exn _ => exact q.elim
        | xv _ => exact q.elim
        | xm _ _ => exact q.elim
        | nd _ _ => exact q.elim
        | _ => exact ⟨v, .ref (TC X.K), _, .ref (TC X.K), false, rfl, .own _, ty_vw rel'.fH vw rfl, J.no rfl, q _ H' F' le rel' (.bl _)⟩
/-- a method that may be called -/
structure CalM (P : Program) (w : World) (K : PySem.W.Frag) (mg : Str → Option Value) (base : Heap) (m : Str) (k : Nat) (sp : Sp) : Prop where
  there : ∃ f fd ps, FnOk P w K mg base (L2N.CX P w) k f fd ps sp ∧ Meth K (TC K) m f ∧ Binds K fd ps []
theorem CalM.mono {P : Program} {w : World} {K : PySem.W.Frag} {mg : Str → Option Value} {base : Heap} {m : Str} {j k : Nat} {sp : Sp} (C : CalM P w K mg base m j sp) (h : j ≤ k) : CalM P w K mg base m k sp := by
  obtain ⟨f, fd, ps, F, r⟩ := C.there
  exact ⟨f, fd, ps, F.mono h, r⟩
/-- o.m(..), o frozen -/
def sMethP (n : Nat) (g : List D → FR) (so : SE) (sA : SA) : SE := fun ρ => (so ρ).bind fun x ρ1 => match x with
  | .tal d => (sA ρ1).bind fun ds ρ2 => if ds.length + 1 = n then endP (g (.tal d :: ds)) ρ2 else .stuck
  | _ => .stuck
variable {m : Str} {k n : Nat} {g : List D → FR}
theorem methP_core {σ : L2.St} {H : Hp} {Q : VK} {m : Str} (hm0 : (m == ("row" : Str)) = false) (h : tE (GK X ex) W (sMethP n g se sA) σ H Q) :
    tE (GK X ex) W se σ H fun x H1 => ∃ a dx fs, x = .ref a ∧ H1 a = some (.ins (TC X.K) dx fs) ∧ fs.lookup m = none ∧ tA (GK X ex) W sA σ H1 fun vs H2 => spP (GK X ex) n g (.ref a :: vs) H2 Q (WE W σ) := by
  obtain ⟨ρ, F, Rv, io, rel, q⟩ := h
  refine ⟨ρ, F, Rv, io, rel, ?_⟩
  unfold sMethP at q
  cases e1 : se ρ with
  | stuck => rw [e1] at q; exact q.elim
  | exc x ρ' => rw [e1] at q; exact q
  | ok x ρ1 =>
    rw [e1, R.bind_ok] at q
    intro v H1 F1 le rel1 rp
    cases x with
    | tal d =>
      simp only at q
      have rp' := rp
      cases rp with
      | tal t r =>
        refine ⟨_, _, _, rfl, rel1.fH _ _ t, by simp [List.lookup, hm0], ρ1, F1, Rv, io, rel1, ?_⟩
        cases e2 : sA ρ1 with
        | stuck => rw [e2] at q; exact q.elim
        | exc x ρ' => rw [e2] at q; exact XPost.le q le
        | ok ds ρ2 =>
          rw [e2, R.bind_ok] at q
          intro vs H2 F2 le2 rel2 rvs
          by_cases hn : ds.length + 1 = n
          · rw [if_pos hn] at q
            refine ⟨.tal d :: ds, F2, restOf F2 H2 none, by rw [List.length_cons, rvs.length]; exact hn, restOf_apart rel2 none, .cons (rp'.mono le2) rvs, ?_⟩
            cases e3 : g (.tal d :: ds) with
            | stuck => rw [e3] at q; exact q.elim
            | ok z o => rw [e3] at q; exact fun v H' F' le3 ap rp => q v H' F' ((le.trans le2).trans le3) (rel2.behind le3 ap) rp
            | exc x => rw [e3] at q; exact fun cls dd H' F' le3 ap xr => q cls dd σ H' F' ((le.trans le2).trans le3) (rel2.behind le3 ap) xr
          · rw [if_neg hn] at q; exact q.elim
    | _ => exact q.elim
theorem d_methP {pl : Sem Bool} (hu : At X W) (T : TalC X.K) (C : CalM X.prog X.w X.K X.mg X.base m k (spP (GK X ex) n g)) (hr : Room k X.A) (ho : DE (GK X ex) X W o se) (ha : DA (GK X ex) X W (e :: es) sA) (hm0 : (m == ("row" : Str)) = false := by decide)
    (hst : starEach (e :: es) X.env = (false, eval e X.env) :: starEach es X.env := by rfl) (hpl : (backTo pos (starEach es X.env)).any (·.1) = false := by rfl)
    (ht : eval (.Call (.Attribute o m apos) (e :: es) [] pos) X.env = (do
      let ov ← eval o X.env
      standAt apos.atName
      let (f, first) ← holding [ov] (getMethod ov m pl)
      callWith pos f first (backTo pos (starEach (e :: es) X.env)) (backToKw pos (keywordEach [] X.env))) := by rfl) :
    DE (GK X ex) X W (.Call (.Attribute o m apos) (e :: es) [] pos) (sMethP n g se sA) := ⟨fun pins s σ H Q I h => by
  obtain ⟨f, fd, ps, F, hm, hb⟩ := C.there
  refine PySem.W.methodCall_KW (pl := pl) (thn (ho.run pins s σ H _ I (methP_core hm0 h)) fun u s1 ⟨x, H1, I1, rx, a, dx, fs, ex, ea, l, q⟩ => ?_) ht
  subst ex
  obtain rfl : u = Value.ref a := rx
  refine getmeth_ok I1 ea T.cl hm l ?_
  refine PySem.W.callWith_K (first := [.ref a]) (h₀ := X.base) I.ok.mod.kin hm.kp (thn (ha.run pos pins s1 σ H1 _ I1 q) fun us s2 ⟨vs, H2, I2, r, q2⟩ => ⟨I2.kIn, ?_⟩) hst hpl
  exact run_fnS (us := .ref a :: us) (vs := .ref a :: vs) F hr hb (L2N.passAt hu.tk σ) I2 (.cons rfl r) q2⟩
end
section
variable {P : Program} {w : World} {K : PySem.W.Frag} {mg : Str → Option Value} {base : Heap}
/-- a method of the text as it stands -/
structure FnM (K : PySem.W.Frag) (m qual : Str) (st : Stmt) (ps : List Str) : Prop where
  there : ∃ f fd, Fun K m qual st f fd ∧ Meth K (TC K) m f ∧ Binds K fd ps []
theorem calM_P {m q : Str} {st : Stmt} {N ps : List Str} {k : Nat} {body : SS} (ea : String → Addr) (F : FnM K m q st ps) (S : FnScope N ps (defScope st))
    (h : ∀ (f : Addr) (cdv : Value) (A : Around) (outer : List PySem.Env) (s : Shared) (H : Hp) (E : XK), Room k (A.deeper (envOfC q (defScope st) s.heap.objs.size f cdv)) →
      DSs ⟨K, ⟨ea, []⟩⟩ (cxOf (L2N.CX P w) P w K mg base N q (defScope st) f cdv A outer s H E) (wE E) (defBody st) body) : CalM P w K mg base m (k + 1) (spP ⟨K, ⟨ea, []⟩⟩ ps.length (runP N.length ps.length body)) := by
  obtain ⟨f, fd, F, hm, hb⟩ := F.there
  exact ⟨f, fd, ps, d_defP ea F S (h f), hm, hb⟩
end
end Dt
set_option Elab.async false
set_option linter.all false
set_option maxRecDepth 100000
set_option maxHeartbeats 4000000
namespace Dt
open PySem PySem.Spec PyProof.Rows L2
variable [HW]
/-- what __init__ promises of a new instance -/
def spInit (G : Gx) (chk : D → FR) : Sp := fun vs H Q E => ∃ a dx v d F Rv, vs = [.ref a, v] ∧ Apart F Rv H ∧ F a = none ∧ Rv a = none ∧ H a = some (.ins (TC G.K) dx []) ∧ Rp G.K F v d ∧ match chk d with
  | .ok d' _ => ∀ x H' F', FLe F F' → Apart F' Rv H' → F' a = none → H' a = some (.ins (TC G.K) dx [("row", x)]) → Rp G.K F' x d' → Q .non H'
  | .exc y => ∀ cls dd H' F', FLe F F' → Apart F' Rv H' → XR G F' y cls dd H' → E cls dd H'
  | .stuck => False
section
variable {P : Program} {w : World} {K : PySem.W.Frag} {mg : Str → Option Value} {base : Heap}
theorem init_T {qual : Str} {params : Arguments} {bd : List Stmt} {scope : Scope} {dvs : List V} {f : Addr} {fd : FuncData} {s1 : Stmt} {p1 p2 p3 p4 : Pos} {k : Nat} {body : SS} {chk : D → FR} (ea : String → Addr) (T : TalC K)
    (F : FunD K "__init__" qual params bd scope dvs [] f fd) (S : FnScope ["self", "counter"] ["self", "counter"] scope) (hb : bd = [s1, .Assign [.Attribute (.Name "self" p1) "row" p2] (.Name "counter" p3) p4])
    (hc : ∀ a d, match chk d with | .ok d' _ => body [.fro (.exn a), .fro d] = .ok .nx [.fro (.exn a), .fro d'] | .exc x => ∃ ρ', body [.fro (.exn a), .fro d] = .exc x ρ' | .stuck => True)
    (h : ∀ (cdv : Value) (A : Around) (outer : List PySem.Env) (s : Shared) (H : Hp) (E : XK), Room k (A.deeper (envOfC qual scope s.heap.objs.size f cdv)) → DS ⟨K, ⟨ea, []⟩⟩ (cxOf (L2N.CX P w) P w K mg base ["self", "counter"] qual scope f cdv A outer s H E) (wE E) s1 body) :
    FnOk P w K mg base (L2N.CX P w) (k + 1) f fd ["self", "counter"] (spInit ⟨K, ⟨ea, []⟩⟩ chk) := by
  refine F.ok S (fun vs H Q E ⟨_, _, _, _, _, _, e, _⟩ => by rw [e]; rfl) fun cdv A outer s H vs Q E hr ⟨a, dx, v, d, F0, Rv, ev, ap, nF, nR, ha, rv, q⟩ => ?_
  subst ev
  subst hb
  have vis : ∀ x ∈ (["self", "counter"] : List Str), Vis (cxOf (L2N.CX P w) P w K mg base ["self", "counter"] qual scope f cdv A outer s H E).env.scope x := fun x hx => (S.par x hx).elim (fun z => .inl z) fun z => .inr (.inl z)
  refine ⟨_, pss_cons (h cdv A outer s H E hr) (pss_one (ps_fld (pe_var (i := 0) rfl (vis _ (.head _))) (pe_var (i := 1) rfl (vis _ (.tail _ (.head _)))) (by rfl))), ?_⟩
  have ap1 : Apart F0 (upd Rv a (.ins (TC K) dx [])) H := ⟨ap.f, fun b o e => by
    by_cases z : b = a
    · subst z; rw [upd_same] at e; cases e; exact ha
    · rw [upd_ne z] at e; exact ap.r b o e, fun b o e => by
    have z : b ≠ a := fun z => by subst z; rw [nF] at e; cases e
    rw [upd_ne z]; exact ap.d b o e, ap.nt⟩
  have rel := rel_start (m := 0) ap1 (Rps.cons (.exn a) (.cons rv .nil))
  have hc := hc a d
  refine ⟨_, F0, _, {}, rel, ?_⟩
  have back : ∀ {ρ' : Env} {σ' : L2.St} {H' F' : Hp}, Rel K ({} : Io []) (upd Rv a (.ins (TC K) dx [])) ρ' F' σ' H' → F' a = none ∧ H' a = some (.ins (TC K) dx []) ∧ Apart F' Rv H' := fun {ρ' σ' H' F'} r => by
    have n : F' a = none := by
      cases e : F' a with
      | none => rfl
      | some o => have z := r.dj a o e; rw [upd_same] at z; cases z
    refine ⟨n, r.rH a _ upd_same, r.fH, fun b o e => ?_, fun b o e => ?_, r.nt⟩
    · have z : b ≠ a := fun z => by subst z; rw [nR] at e; cases e
      exact r.rH b o (by rw [upd_ne z]; exact e)
    · have z : b ≠ a := fun z => by subst z; rw [n] at e; cases e
      have y := r.dj b o e
      rw [upd_ne z] at y
      exact y
  cases e1 : chk d with
  | stuck => rw [e1] at q; exact q.elim
  | exc x =>
    rw [e1] at q hc
    obtain ⟨ρ', e2⟩ := hc
    show SPost _ _ _ _ _ (body [.fro (.exn a), .fro d]) _
    rw [e2]
    exact fun cls dd σ' H' F' le r xr => q cls dd H' F' le (back r).2.2 xr
  | ok d' o =>
    rw [e1] at q hc
    show SPost _ _ _ _ _ (body [.fro (.exn a), .fro d]) _
    have hc : body [.fro (.exn a), .fro d] = .ok .nx [.fro (.exn a), .fro d'] := hc
    rw [hc]
    intro σ' H' F' le r
    obtain ⟨n1, n2, n3⟩ := back r
    obtain ⟨v0, s0, c0⟩ := r.slot (i := 0) rfl
    obtain ⟨v1, s1', c1⟩ := r.slot (i := 1) rfl
    obtain ⟨x0, rfl, r0⟩ := c0
    obtain ⟨x1, rfl, r1⟩ := c1
    cases r0
    refine ⟨x1, s1', .ref a, s0, a, _, dx, [], rfl, n2, T.cl, T.nr, by simp, ?_⟩
    refine q x1 _ F' le ⟨fun b o e => ?_, fun b o e => ?_, n3.d, n3.nt⟩ n1 upd_same r1
    · have z : b ≠ a := fun z => by subst z; rw [n1] at e; cases e
      rw [upd_ne z]; exact n3.f b o e
    · have z : b ≠ a := fun z => by subst z; rw [nR] at e; cases e
      rw [upd_ne z]; exact n3.r b o e
end
/-- the class can be made -/
structure TalMk (P : Program) (w : World) (K : PySem.W.Frag) (mg : Str → Option Value) (base : Heap) (k : Nat) (chk : D → FR) : Prop where
  there : ∃ fI fd, Mk K (TC K) fI ∧ FnOk P w K mg base (L2N.CX P w) k fI fd ["self", "counter"] (spInit ⟨K, ⟨exA K, []⟩⟩ chk) ∧ Binds K fd ["self", "counter"] [] ∧ ∃ ta ds, Vals [.ref ta] ds ∧ Binds K fd ["self", "counter"] ds ∧ EtC K ta
section
variable {X : Cx} {W : WX} {e : Expr} {p pos : Pos} {se : SE} {k : Nat} {chk : D → FR} {T : List (Addr × Str)}
theorem run_makeS {CX : CXT} {E : L2.St → XK} {C f : Addr} {fd : FuncData} {ps : List Str} {sp : Sp} {ds : List Value} {dvs : List V} {pins : List (Addr × Obj)} {σ : L2.St} {H : Hp} {s : Shared} {Q : VK} {us : List Value} {vs : List V} (M : Mk X.K C f) (F : FnOk X.prog X.w X.K X.mg X.base CX k f fd ps sp) (hr : Room (k + 1) X.A)
    (hb : Binds X.K fd ps ds) (hd : Vals dvs ds) (hx : PassesAt CX X σ (E σ)) (I : Inv X pins σ H s) (r : Vals vs us)
    (h : ∀ x dx, H x = none → H dx = none → dx ≠ x → sp (.ref x :: (vs ++ dvs)) (upd (upd H dx (.own x)) x (.ins C dx [])) (fun v H2 => v = .non ∧ Q (.ref x) H2) (E σ)) :
    wpAny (model X.prog X.w) X.A (call (.ref C) us) (EP X pins σ Q) X.xe s := by
  have hq := h (s.heap.objs.size + 1) s.heap.objs.size (I.hok.fresh (Nat.le_succ _)) (I.hok.fresh (Nat.le_refl _)) (Nat.ne_of_lt (Nat.lt_succ_self _))
  have I2 := Inv.made (C := C) I
  have r2 : Vals (V.ref (s.heap.objs.size + 1) :: (vs ++ dvs)) (Value.ref (s.heap.objs.size + 1) :: (us ++ ds)) := .cons rfl (r.append hd)
  have hl : (Value.ref (s.heap.objs.size + 1) :: us ++ ds).length = ps.length := by
    have e := r2.length
    rw [F.len _ _ _ _ hq] at e
    exact e.symm
  refine wpAny_call (make_map (f := f) I.kIn M.makes M.init (beq_iff_eq.mp M.fn) (codeAny_mono (F.run _ X.stack _ _ ⟨Value.ref (s.heap.objs.size + 1) :: us, []⟩ (Value.ref (s.heap.objs.size + 1) :: (us ++ ds)) _ _ (E σ) (hr.make C us [])
    (I2.env0.make C us []) (hb _ (Value.ref (s.heap.objs.size + 1) :: us) I2.kIn hl) r2 hq) fun r s' hq' => ?_))
  cases r with
  | error e => exact hx pins _ _ e s' I2 hq'
  | ok fl =>
    cases fl with
    | ret u =>
      obtain ⟨v, H', I3, rv, ev, q3⟩ := I2.after hq'
      subst ev
      exact ⟨rv, ⟨V.ref (s.heap.objs.size + 1), H', I3, rfl, q3⟩⟩
    | next => exact False.elim hq'
    | brk => exact False.elim hq'
    | cont => exact False.elim hq'
def sMkT (chk : D → FR) (s : SE) : SE := fun ρ => (s ρ).bind fun d ρ' => match chk d with
  | .ok d' _ => .ok (.tal d') ρ'
  | .exc x => .exc x ρ'
  | .stuck => .stuck
theorem Apart.lessR {F R R' H : Hp} (h : Apart F R' H) (le : FLe R R') : Apart F R H := ⟨h.f, fun a o e => h.r a o (le a o e), (fun a o e => le.noneOf (h.d a o e)), h.nt⟩
theorem mkT_core {ea : String → Addr} {σ : L2.St} {H : Hp} {Q : VK} (h : tF ⟨X.K, ⟨ea, T⟩⟩ W (sMkT chk se) σ H Q) :
    tE ⟨X.K, ⟨ea, T⟩⟩ W se σ H fun v H1 => ∀ x dx, H1 x = none → H1 dx = none → dx ≠ x → spInit ⟨X.K, ⟨ea, []⟩⟩ chk [.ref x, v] (upd (upd H1 dx (.own x)) x (.ins (TC X.K) dx [])) (fun z H2 => z = .non ∧ Q (.ref x) H2) (WE W σ) := by
  obtain ⟨ρ, F, Rv, io, rel, q⟩ := h
  refine ⟨ρ, F, Rv, io, rel, ?_⟩
  unfold sMkT at q
  cases e1 : se ρ with
  | stuck => rw [e1] at q; exact q.elim
  | exc x ρ' => rw [e1] at q; exact q
  | ok d ρ' =>
    rw [e1, R.bind_ok] at q
    intro v H1 F1 le rel1 rv x dx nx ndx nex
    have nx1 : upd H1 dx (.own x) x = none := by rw [upd_ne (fun z => nex z.symm)]; exact nx
    have rel2 := (rel1.newH ndx (.own x)).newH nx1 (.ins (TC X.K) dx [])
    have sub : FLe (restOf F1 H1 none) (restOf F1 (upd (upd H1 dx (.own x)) x (.ins (TC X.K) dx [])) (some x)) := fun b o e => by
      unfold restOf at e ⊢
      split at e
      · rename_i c
        have n1 : b ≠ x := fun z => by subst z; rw [nx] at e; cases e
        have n2 : b ≠ dx := fun z => by subst z; rw [ndx] at e; cases e
        rw [if_pos ⟨c.1, fun z => n1 (Option.some.inj z).symm⟩, upd_ne n1, upd_ne n2]
        exact e
      · cases e
    have nRx : restOf F1 (upd (upd H1 dx (.own x)) x (.ins (TC X.K) dx [])) (some x) x = none := by unfold restOf; rw [if_neg (fun z => z.2 rfl)]
    refine ⟨x, dx, v, d, F1, restOf F1 _ (some x), rfl, restOf_apart rel2 _, rel1.fH.noneOf nx, nRx, upd_same, rv, ?_⟩
    cases e2 : chk d with
    | stuck => rw [e2] at q; exact q.elim
    | exc y =>
      rw [e2] at q
      exact fun cls dd H' F' le2 ap xr => q cls dd σ H' F' (le.trans le2) (rel1.behind le2 (ap.lessR sub)) xr
    | ok d' o =>
      rw [e2] at q
      refine fun w H' F' le2 ap nF' ha' rp' => ⟨rfl, q x H' F' (le.trans le2) (rel1.behind le2 (ap.lessR sub)) ⟨nF', rel1.rH.noneOf nx, _, ha', ?_⟩ (rel1.loose nx)⟩
      exact ⟨rfl, dx, w, rfl, rp'⟩
theorem d_mkT (hu : At X W) (C : TalMk X.prog X.w X.K X.mg X.base k chk) (mT : X.mg "Tally" = some (.ref (TC X.K))) (hr : Room (k + 1) X.A) (hg : Gl X "Tally") (ha : DE (GK X ⟨exA X.K, T⟩) X W e se)
    (he : starEach (e :: []) X.env = (false, eval e X.env) :: starEach [] X.env := by rfl) (hpl : (backTo pos (starEach [] X.env)).any (·.1) = false := by rfl) : DF (GK X ⟨exA X.K, T⟩) X W (.Call (.Name "Tally" p) [e] [] pos) (sMkT chk se) := ⟨fun pins s σ H Q I h => by
  obtain ⟨fI, fd, M, F, hb, _⟩ := C.there
  refine wpAny_Call_Name_kw (ld_glob I hg mT ?_ (by decide))
  refine PySem.W.callWith_K (h₀ := X.base) I.ok.mod.kin M.kp (thn ((pa_cons ha pa_nil he).run pos pins s σ H (fun vs H1 => ∀ x dx, H1 x = none → H1 dx = none → dx ≠ x → spInit ⟨X.K, ⟨exA X.K, []⟩⟩ chk (.ref x :: vs) (upd (upd H1 dx (.own x)) x (.ins (TC X.K) dx [])) (fun z H2 => z = .non ∧ Q (.ref x) H2) (WE W σ)) I (mkT_core h)) fun us s1 ⟨vs, H1, I1, r, q⟩ => ⟨I1.kIn, ?_⟩) he hpl
  exact run_makeS (dvs := []) (ds := []) M F hr hb .nil (L2N.passAt hu.tk σ) I1 r (by simpa using q)⟩
theorem d_mkT0 (hu : At X W) (C : TalMk X.prog X.w X.K X.mg X.base k chk) (mT : X.mg "Tally" = some (.ref (TC X.K))) (hr : Room (k + 1) X.A) (hg : Gl X "Tally") : DF (GK X ⟨exA X.K, T⟩) X W (.Call (.Name "Tally" p) [] [] pos) (sMkT chk (sCst .etup)) := ⟨fun pins s σ H Q I h => by
  obtain ⟨fI, fd, M, F, _, ta, ds, hv, hb, hta⟩ := C.there
  refine wpAny_Call_Name_kw (ld_glob I hg mT ?_ (by decide))
  obtain ⟨ρ, F1, Rv, io, rel, q⟩ := mkT_core h
  have q := q (.ref ta) H F1 (FLe.refl _) rel (.etup hta)
  exact PySem.W.callWith_K0 I.kIn M.kp (run_makeS (us := []) (vs := []) M F hr hb hv (L2N.passAt hu.tk σ) I .nil q)⟩
/-- cls(e), cls a variable -/
def sMkV (i : Nat) (chk : D → FR) (s : SE) : SE := fun ρ => match ρ[i]? with
  | some (.fro (.fn nm)) => if nm = "Tally" then sMkT chk s ρ else .stuck
  | _ => .stuck
theorem d_mkV {x : Str} {i : Nat} (hu : At X W) (hN : X.N[i]? = some x) (hv : Vis X.env.scope x) (C : TalMk X.prog X.w X.K X.mg X.base k chk) (hr : Room (k + 1) X.A) (ha : DE (GK X ⟨exA X.K, T⟩) X W e se)
    (hdb : (x == ("__debug__" : Str)) = false := by decide) (hcd : (x == ("__classdict__" : Str)) = false := by decide)
    (he : starEach (e :: []) X.env = (false, eval e X.env) :: starEach [] X.env := by rfl) (hpl : (backTo pos (starEach [] X.env)).any (·.1) = false := by rfl) : DF (GK X ⟨exA X.K, T⟩) X W (.Call (.Name x p) [e] [] pos) (sMkV i chk se) := ⟨fun pins s σ H Q I h => by
  obtain ⟨fI, fd, M, F, hb, _⟩ := C.there
  obtain ⟨ρ, F1, Rv, io, rel, q⟩ := h
  unfold sMkV at q
  cases e1 : ρ[i]? with
  | none => rw [e1] at q; exact q.elim
  | some c =>
    rw [e1] at q
    cases c with
    | fro d => cases d with
      | fn nm =>
        simp only at q
        by_cases hn : nm = "Tally"
        · rw [if_pos hn] at q
          subst hn
          obtain ⟨v, es1, y, rfl, rp⟩ := rel.slot e1
          cases rp
          refine wpAny_Call_Name_kw (thn ((pe_var (pos := p) hN hv hdb hcd).run pins s σ H (fun v H1 => v = .ref (TC X.K) ∧ H1 = H) I ⟨_, es1, rfl, rfl⟩) fun u s1 ⟨v, H1, I1, r1, q1⟩ => ?_)
          obtain ⟨rfl, rfl⟩ := q1
          cases r1
          refine PySem.W.callWith_K (h₀ := X.base) I.ok.mod.kin M.kp (thn ((pa_cons ha pa_nil he).run pos pins s1 σ _ (fun vs H1 => ∀ x dx, H1 x = none → H1 dx = none → dx ≠ x → spInit ⟨X.K, ⟨exA X.K, []⟩⟩ chk (.ref x :: vs) (upd (upd H1 dx (.own x)) x (.ins (TC X.K) dx [])) (fun z H2 => z = .non ∧ Q (.ref x) H2) (WE W σ)) I1 (mkT_core ⟨ρ, F1, Rv, io, rel, q⟩)) fun us s2 ⟨vs, H2, I2, r, q⟩ => ⟨I2.kIn, ?_⟩) he hpl
          exact run_makeS (dvs := []) (ds := []) M F hr hb .nil (L2N.passAt hu.tk σ) I2 r (by simpa using q)
        · rw [if_neg hn] at q; exact q.elim
      | _ => exact q.elim
    | _ => exact q.elim⟩
end
end Dt
set_option Elab.async false
set_option linter.all false
set_option maxRecDepth 100000
set_option maxHeartbeats 4000000
namespace Dt
open PySem PySem.Spec PyProof.Rows L2
variable [HW]
/-- a classmethod that may be called -/
structure CalC (P : Program) (w : World) (K : PySem.W.Frag) (mg : Str → Option Value) (base : Heap) (m : Str) (k : Nat) (sp : Sp) : Prop where
  there : ∃ (mc : Value) (p g : Addr), ClX.CRead K (TC K) mc ∧ ClX.CMet K (TC K) mc m p g ∧ FnR P w K mg base (L2N.CX P w) k g sp
section
variable {ex : Exx} {X : Cx} {W : WX} {e : Expr} {es : List Expr} {p pos apos : Pos} {sA : SA} {m : Str} {k n : Nat} {g : List D → FR}
theorem run_cmS {E : L2.St → XK} {pins : List (Addr × Obj)} {σ : L2.St} {H : Hp} {s : Shared} {f C q : Addr} {sp : Sp} {Q : VK} {us : List Value} {vs : List V} (F : FnR X.prog X.w X.K X.mg X.base (L2N.CX X.prog X.w) k f sp) (hr : Room k X.A) (hx : PassesAt (L2N.CX X.prog X.w) X σ (E σ))
    (I : Inv X ((q, PySem.W.methodObj (.ref f) (.ref C)) :: pins) σ H s) (r : Vals vs us) (h : sp (.ref C :: vs) H Q (E σ)) : wpAny (model X.prog X.w) X.A (call (.ref q) us) (EP X pins σ Q) X.xe s := by
  have z : wpAny (model X.prog X.w) X.A (call (.ref q) us) (EP X ((q, PySem.W.methodObj (.ref f) (.ref C)) :: pins) σ Q) X.xe s := by
    refine wpAny_call (PySem.W.method_call (ClX.pin_at I) (codeAny_mono (F X.A X.stack s H (.ref C :: us) (.ref C :: vs) Q (E σ) hr I.env0 (.cons rfl r) h) fun r s' hq => ?_))
    cases r with
    | error e => exact hx _ H s e s' I hq
    | ok fl =>
      cases fl with
      | ret u => exact I.after hq
      | next => exact False.elim hq
      | brk => exact False.elim hq
      | cont => exact False.elim hq
  exact thn z fun _ _ y => ClX.unpinE y
def sCmT (n : Nat) (g : List D → FR) (s : SA) : SE := fun ρ => (s ρ).bind fun ds ρ' => if ds.length + 1 = n then endP (g (.fn "Tally" :: ds)) ρ' else .stuck
theorem cmT_core {σ : L2.St} {H : Hp} {Q : VK} (h : tE (GK X ex) W (sCmT n g sA) σ H Q) : tA (GK X ex) W sA σ H fun vs H2 => spP (GK X ex) n g (.ref (TC X.K) :: vs) H2 Q (WE W σ) := by
  obtain ⟨ρ, F, Rv, io, rel, q⟩ := h
  refine ⟨ρ, F, Rv, io, rel, ?_⟩
  unfold sCmT at q
  cases e2 : sA ρ with
  | stuck => rw [e2] at q; exact q.elim
  | exc x ρ' => rw [e2] at q; exact q
  | ok ds ρ2 =>
    rw [e2, R.bind_ok] at q
    intro vs H2 F2 le2 rel2 rvs
    by_cases hn : ds.length + 1 = n
    · rw [if_pos hn] at q
      refine ⟨.fn "Tally" :: ds, F2, restOf F2 H2 none, by rw [List.length_cons, rvs.length]; exact hn, restOf_apart rel2 none, .cons (.fn _) rvs, ?_⟩
      cases e3 : g (.fn "Tally" :: ds) with
      | stuck => rw [e3] at q; exact q.elim
      | ok z o => rw [e3] at q; exact fun v H' F' le3 ap rp => q v H' F' (le2.trans le3) (rel2.behind le3 ap) rp
      | exc x => rw [e3] at q; exact fun cls dd H' F' le3 ap xr => q cls dd σ H' F' (le2.trans le3) (rel2.behind le3 ap) xr
    · rw [if_neg hn] at q; exact q.elim
theorem d_cmeth {pl : Sem Bool} (hu : At X W) (C : CalC X.prog X.w X.K X.mg X.base m k (spP (GK X ex) n g)) (mT : X.mg "Tally" = some (.ref (TC X.K))) (hr : Room k X.A) (hg : Gl X "Tally") (ha : DA (GK X ex) X W (e :: es) sA)
    (hst : starEach (e :: es) X.env = (false, eval e X.env) :: starEach es X.env := by rfl) (hpl : (backTo pos (starEach es X.env)).any (·.1) = false := by rfl)
    (ht : eval (.Call (.Attribute (.Name "Tally" p) m apos) (e :: es) [] pos) X.env = (do
      let ov ← eval (.Name "Tally" p) X.env
      standAt apos.atName
      let (f, first) ← holding [ov] (getMethod ov m pl)
      callWith pos f first (backTo pos (starEach (e :: es) X.env)) (backToKw pos (keywordEach [] X.env))) := by rfl) :
    DE (GK X ex) X W (.Call (.Attribute (.Name "Tally" p) m apos) (e :: es) [] pos) (sCmT n g sA) := ⟨fun pins s σ H Q I h => by
  obtain ⟨mc, q0, f, r, c, F⟩ := C.there
  refine PySem.W.methodCall_KW (pl := pl) (thn ((pe_glob (pos := p) (v := .ref (TC X.K)) hg mT rfl (by decide)).run pins s σ H (fun v H1 => v = .ref (TC X.K) ∧ H1 = H) I ⟨rfl, rfl⟩) fun u s1 ⟨x, H1, I1, rx, ex, eH⟩ => ?_) ht
  subst ex
  subst eH
  obtain rfl : u = Value.ref (TC X.K) := rx
  refine ClX.getmethcm_ok I1 r c fun s2 I2 => ?_
  refine ClX.callwith_cm I2 (ClX.base_none I1 (Nat.le_refl _)) c.fi (thn (ha.run pos _ s2 σ _ _ I2 (cmT_core h)) fun us s3 ⟨vs, H2, I3, rv, q2⟩ => ⟨⟨ClX.pin_at I3, I3.kIn⟩, ?_⟩) hst hpl
  exact run_cmS (E := WE W) F hr (L2N.passAt hu.tk σ) I3 rv q2⟩
end
section
variable {P : Program} {w : World} {K : PySem.W.Frag} {mg : Str → Option Value} {base : Heap}
/-- a classmethod of the text as it stands -/
structure FnC (K : PySem.W.Frag) (m qual : Str) (st : Stmt) (ps : List Str) : Prop where
  there : ∃ (mc : Value) (p g : Addr) (fd : FuncData), ClX.CRead K (TC K) mc ∧ ClX.CMet K (TC K) mc m p g ∧ Fun K m qual st g fd ∧ Binds K fd ps []
theorem calC_P {m q : Str} {st : Stmt} {N ps : List Str} {k : Nat} {body : SS} (ea : String → Addr) (F : FnC K m q st ps) (S : FnScope N ps (defScope st))
    (h : ∀ (f : Addr) (cdv : Value) (A : Around) (outer : List PySem.Env) (s : Shared) (H : Hp) (E : XK), Room k (A.deeper (envOfC q (defScope st) s.heap.objs.size f cdv)) →
      DSs ⟨K, ⟨ea, []⟩⟩ (cxOf (L2N.CX P w) P w K mg base N q (defScope st) f cdv A outer s H E) (wE E) (defBody st) body) : CalC P w K mg base m (k + 1) (spP ⟨K, ⟨ea, []⟩⟩ ps.length (runP N.length ps.length body)) := by
  obtain ⟨mc, p, f, fd, r, c, F, hb⟩ := F.there
  exact ⟨mc, p, f, r, c, ((d_defP ea F S (h f)).raw hb .nil).imp fun vs H Q E z => by rw [List.append_nil]; exact z⟩
end
end Dt
set_option Elab.async false
set_option linter.all false
set_option maxRecDepth 100000
set_option maxHeartbeats 4000000
namespace Dt
open PySem PySem.Spec PyProof.Rows L2
variable [HW]
section
variable {P : Program} {w : World} {K : PySem.W.Frag} {mg : Str → Option Value} {base : Heap}
theorem funD_init {x qual : Str} {st : Stmt} {f T0 ta : Addr} {oc kV doc pm cd ct c1 : Value} {od an d1 : Option Addr} {osl s1 : Array (Option Value)} {n1 : Nat}
    (lk : K.lookup f = some ⟨oc, od, .func (PySem.W.fnOf x qual (defArgs st) (defBody st) (defScope st) (.ref T0) kV doc pm an cd ct), osl⟩) (hcd : PySem.W.codeIn K cd qual = true) (hk : PySem.W.keepIn K (.ref f) = true)
    (lT : K.lookup T0 = some ⟨c1, d1, .seq #[.ref ta] n1, s1⟩) : FunD K x qual (defArgs st) (defBody st) (defScope st) [.ref ta] [] f (PySem.W.fnOf x qual (defArgs st) (defBody st) (defScope st) (.ref T0) kV doc pm an cd ct) :=
  ⟨⟨oc, od, .ref T0, kV, doc, pm, an, cd, ct, osl, rfl, lk, hcd, .inr ⟨by simp, T0, _, [.ref ta], n1, rfl, lT, rfl, .cons rfl .nil⟩, .inl rfl⟩, hk⟩
theorem talMk_of {st s1 : Stmt} {f ta : Addr} {fd : FuncData} {p1 p2 p3 p4 : Pos} {k : Nat} {body : SS} {chk : D → FR} (T : TalC K) (M : Mk K (TC K) f) (FD : FunD K "__init__" "Tally.__init__" (defArgs st) (defBody st) (defScope st) [.ref ta] [] f fd)
    (S : FnScope ["self", "counter"] ["self", "counter"] (defScope st)) (hta : EtC K ta)
    (b2 : ∀ (T : Addr) (kV doc pm : Value) (an : Option Addr) (cdv ct : Value) (us its : List Value), us.length = 2 → its.length = 1 →
      ∃ k, bindArgs (PySem.W.fnOf "__init__" "Tally.__init__" (defArgs st) (defBody st) (defScope st) (.ref T) kV doc pm an cdv ct) ⟨us, []⟩ = seqItems? (.ref T) >>= k ∧ k (some its.toArray) = pure ((["self", "counter"] : List Str).zip (us ++ its.drop 1)))
    (b1 : ∀ (T : Addr) (kV doc pm : Value) (an : Option Addr) (cdv ct : Value) (us its : List Value), us.length = 1 → its.length = 1 →
      ∃ k, bindArgs (PySem.W.fnOf "__init__" "Tally.__init__" (defArgs st) (defBody st) (defScope st) (.ref T) kV doc pm an cdv ct) ⟨us, []⟩ = seqItems? (.ref T) >>= k ∧ k (some its.toArray) = pure ((["self", "counter"] : List Str).zip (us ++ its.drop 0)))
    (hb : defBody st = [s1, .Assign [.Attribute (.Name "self" p1) "row" p2] (.Name "counter" p3) p4])
    (hc : ∀ a d, match chk d with | .ok d' _ => body [.fro (.exn a), .fro d] = .ok .nx [.fro (.exn a), .fro d'] | .exc x => ∃ ρ', body [.fro (.exn a), .fro d] = .exc x ρ' | .stuck => True)
    (h : ∀ (cdv : Value) (A : Around) (outer : List PySem.Env) (s : Shared) (H : Hp) (E : XK), Room k (A.deeper (envOfC "Tally.__init__" (defScope st) s.heap.objs.size f cdv)) → DS ⟨K, ⟨exA K, []⟩⟩ (cxOf (L2N.CX P w) P w K mg base ["self", "counter"] "Tally.__init__" (defScope st) f cdv A outer s H E) (wE E) s1 body) :
    TalMk P w K mg base (k + 1) chk := by
  obtain ⟨d2, r2, B2⟩ := FD.binds1 (ps := ["self", "counter"]) 2 1 (by simp) rfl b2
  obtain ⟨d1, r1, B1⟩ := FD.binds1 (ps := ["self", "counter"]) 1 0 (by simp) rfl b1
  cases r2
  exact ⟨f, fd, M, init_T (exA K) T FD S hb hc h, B2, ta, d1, r1, B1, hta⟩
end
/-- its place among the types, the class at C -/
structure TalIA (K : PySem.W.Frag) (C : Addr) : Prop where
  ca : PySem.W.findIn K (.ref C) "__class__" = some (some (.builtin "object.__class__"))
  cn : PySem.W.specialIn K (.builtin "object.__class__") "__get__" = some (some (.builtin "getset_descriptor.__get__"))
  ct : PySem.W.takesIn K (.builtin "object.__class__") = some true
  cm : PySem.W.mroIn K C (.type "object") = some true
  yes : PySem.W.kitOne K (.ref C) (.ref C) = some true
  n1 : PySem.W.kitOne K (.type "NoneType") (.ref C) = some false
  n2 : PySem.W.kitOne K (.type "bool") (.ref C) = some false
  n3 : PySem.W.kitOne K (.type "int") (.ref C) = some false
  n4 : PySem.W.kitOne K (.type "str") (.ref C) = some false
  n5 : PySem.W.kitOne K (.type "tuple") (.ref C) = some false
  n6 : PySem.W.kitOne K (.type "list") (.ref C) = some false
  n7 : PySem.W.kitOne K (.type "dict") (.ref C) = some false
theorem TalIA.to {K : PySem.W.Frag} {C : Addr} (h : TalIA K C) (e : TC K = C) : TalI K := by
  subst e
  exact ⟨h.ca, h.cn, h.ct, h.cm, h.yes, h.n1, h.n2, h.n3, h.n4, h.n5, h.n6, h.n7⟩
/-- reading and storing, the class at C -/
structure TalCA (K : PySem.W.Frag) (C : Addr) : Prop where
  pg : PySem.W.plainGet K C Str.empty = true
  hd : PySem.W.hasDictIn K C = true
  po : PySem.W.plainOver K C = true
  sa : PySem.W.findIn K (.ref C) "__setattr__" = some (some (.builtin "object.__setattr__"))
  nr : PySem.W.findIn K (.ref C) "row" = some none
theorem TalCA.to {K : PySem.W.Frag} {C : Addr} (h : TalCA K C) (e : TC K = C) : TalC K := by
  subst e
  exact ⟨⟨h.pg, h.hd, h.po, h.sa⟩, h.nr⟩
end Dt
set_option Elab.async false
set_option linter.all false
set_option maxRecDepth 100000
set_option maxHeartbeats 4000000
namespace Dt
open PySem PySem.Spec PyProof.Rows L2
variable [HW]
mutual
/-- no tally in it -/
def D.tfree : D → Bool
  | .tal _ => false
  | .nd _ _ => false
  | .lst ds => D.tfrees ds
  | .dct _ ds => D.tfrees ds
  | .tup ds => D.tfrees ds
  | .arg ds => D.tfrees ds
  | _ => true
def D.tfrees : List D → Bool
  | [] => true
  | d :: ds => d.tfree && D.tfrees ds
end
def heldFreeT : D → Bool
  | .lst ds => D.tfrees ds
  | .dct _ ds => D.tfrees ds
  | .tal d => d.tfree
  | _ => false
def cellFreeT : Cell → Bool
  | .own d => heldFreeT d
  | .io d => heldFreeT d
  | _ => true
section
variable {K : PySem.W.Frag} {F : Hp} {p : Addr} {C0 dx0 : Addr} {fs0 : List (Str × V)}
mutual
theorem Rp.eraseT (hp : F p = some (.ins C0 dx0 fs0)) : ∀ {v : V} {d : D}, Rp K F v d → d.tfree = true → Rp K (eraseH F p) v d
  | _, _, .non, _ => .non
  | _, _, .bl b, _ => .bl b
  | _, _, .int i, _ => .int i
  | _, _, .str s, _ => .str s
  | _, _, .tup t r, h => .tup (let ⟨o, e1, e2⟩ := t; ⟨o, e1, by rw [erase_ne (fun z => by subst z; rw [hp] at e2; cases e2)]; exact e2⟩) (Rps.eraseT hp r (by rw [D.tfree] at h; exact h))
  | _, _, .arg t r, h => .arg (by
      rcases t with (t | ⟨o, t⟩) | t
      · exact .inl (.inl (by rw [erase_ne (fun z => by subst z; rw [hp] at t; cases t)]; exact t))
      · exact .inl (.inr ⟨o, by rw [erase_ne (fun z => by subst z; rw [hp] at t; cases t)]; exact t⟩)
      · exact .inr t) (Rps.eraseT hp r (by rw [D.tfree] at h; exact h))
  | _, _, .lst t r, h => .lst (by rw [erase_ne (fun z => by subst z; rw [hp] at t; cases t)]; exact t) (Rps.eraseT hp r (by rw [D.tfree] at h; exact h))
  | _, _, .dct t r, h => .dct (by rw [erase_ne (fun z => by subst z; rw [hp] at t; cases t)]; exact t) (Rps.eraseT hp r (by rw [D.tfree] at h; exact h))
  | _, _, .scr t, _ => .scr (by
      rcases t with (t | ⟨o, t⟩) | t
      · exact .inl (.inl (by rw [erase_ne (fun z => by subst z; rw [hp] at t; cases t)]; exact t))
      · exact .inl (.inr ⟨o, by rw [erase_ne (fun z => by subst z; rw [hp] at t; cases t)]; exact t⟩)
      · exact .inr t)
  | _, _, .fn nm, _ => .fn nm
  | _, _, .exn a, _ => .exn a
  | _, _, .xv c t, _ => .xv c (by rw [erase_ne (fun z => by subst z; rw [hp] at t; have t := Option.some.inj t; unfold ExO at t; cases t)]; exact t)
  | _, _, .xm c n t u, _ => .xm c n (by rw [erase_ne (fun z => by subst z; rw [hp] at t; have t := Option.some.inj t; unfold exo at t; cases t)]; exact t) (by rw [erase_ne (fun z => by subst z; rw [hp] at u; have u := Option.some.inj u; unfold exd at u; cases u)]; exact u)
  | _, _, .etup e, _ => .etup e
  | _, _, .tal _ _, h => by rw [D.tfree] at h; cases h
  | _, _, .nd _ _ _ _, h => by rw [D.tfree] at h; cases h
theorem Rps.eraseT (hp : F p = some (.ins C0 dx0 fs0)) : ∀ {vs : List V} {ds : List D}, Rps K F vs ds → D.tfrees ds = true → Rps K (eraseH F p) vs ds
  | _, _, .nil, _ => .nil
  | _, _, .cons a b, h => by
    rw [D.tfrees, Bool.and_eq_true] at h
    exact .cons (Rp.eraseT hp a h.1) (Rps.eraseT hp b h.2)
end
theorem OwnObj.eraseT (hp : F p = some (.ins C0 dx0 fs0)) {q : Addr} {o : HO} {d : D} (h : OwnObj K F q o d) (hd : heldFreeT d = true) : OwnObj K (eraseH F p) q o d := by
  cases d with
  | lst ds =>
    obtain ⟨xs, e, r⟩ := h
    exact ⟨xs, e, r.eraseT hp hd⟩
  | dct ks ds =>
    obtain ⟨kvs, e, e2, r⟩ := h
    exact ⟨kvs, e, e2, r.eraseT hp hd⟩
  | tal d =>
    obtain ⟨l, dx, v, e, r⟩ := h
    exact ⟨l, dx, v, e, r.eraseT hp hd⟩
  | _ => cases hd
end
/-- the lent slots but i -/
def ioBut {T : List (Addr × Str)} (io : Io T) (i : Nat) : Io T := ⟨io.l.filter fun ip => ip.1 != i⟩
section
variable {T : List (Addr × Str)} {K : PySem.W.Frag} {io : Io T} {R : Hp} {ρ : Env} {F : Hp} {σ : L2.St} {H : Hp}
/-- a held tally is frozen for a while -/
theorem Rel.freezeT (r : Rel K io R ρ F σ H) {i : Nat} {c : Cell} {d : D} {p : Addr} {o : HO} (hc : ρ[i]? = some c) (hh : c.held = some (.tal d)) (hp : σ[i]? = some (some (.ref p))) (ho : H p = some o) (hr : OwnObj K F p o (.tal d)) :
    FLe F (L2.upd F p o) ∧ Rel K (ioBut io i) R (ρ.set i (.fro (.tal d))) (L2.upd F p o) σ H := by
  obtain ⟨p', e1, w⟩ := r.heldAt hc hh
  rw [hp] at e1; cases e1
  have hil : i < ρ.length := (List.getElem?_eq_some_iff.mp hc).1
  have le : FLe F (L2.upd F p o) := FLe.upd _ w.nF
  have rp : Rp K (L2.upd F p o) (.ref p) (.tal d) := by
    obtain ⟨_, dx, v, rfl, rv⟩ := hr
    exact .tal upd_same (rv.mono le)
  have lo : Lone o = true := hr.1
  refine ⟨le, ⟨fun a u e => ?_, r.rH, fun a u e => ?_, by rw [List.length_set]; exact r.len, fun j cj v e1 e2 => ?_, fun j k cj ck dj dk q h1 h2 h3 h4 h5 h6 => ?_, fun ip hip => ?_, fun j d' e => ?_, fun t ht => let q := r.tab t ht; let ⟨ps, ep⟩ := q.tbl; q.mv (by rw [upd_ne (own_ne w ep)]; exact q.1) q.2.1 (fun ps e => e) le q.nR, r.nt.upd lo⟩⟩
  · by_cases h : a = p
    · subst h; rw [upd_same] at e; cases e; exact ho
    · rw [upd_ne h] at e; exact r.fH a u e
  · by_cases h : a = p
    · subst h; exact w.nR
    · rw [upd_ne h] at e; exact r.dj a u e
  · by_cases hj : i = j
    · subst hj
      rw [List.getElem?_set_self hil] at e1
      cases e1
      rw [hp] at e2; cases e2
      exact ⟨_, rfl, rp⟩
    · rw [List.getElem?_set_ne hj] at e1
      have q := r.cell j cj v e1 e2
      have keep : ∀ {dj p'}, cj.held = some dj → v = some (.ref p') → OwnAt K F R H p' dj → OwnAt K (L2.upd F p o) R H p' dj := fun {dj p'} h3 h4 q => by
        obtain ⟨o', e, q3⟩ := q.at_
        have ne : p' ≠ p := by
          intro z
          subst z
          rw [h4] at e2
          exact hj (r.inj i j _ cj _ dj p' hc e1 hh h3 hp e2)
        exact ⟨by rw [upd_ne ne]; exact q.nF, q.nR, o', e, q3.mono le⟩
      cases cj with
      | no => trivial
      | fro d => obtain ⟨x, e, q⟩ := q; exact ⟨x, e, q.mono le⟩
      | own dj => obtain ⟨p', e, q⟩ := q; exact ⟨p', e, keep rfl e q⟩
      | io dj => obtain ⟨p', e, q⟩ := q; exact ⟨p', e, keep rfl e q⟩
  · have old : ∀ {j : Nat} {cj : Cell} {dj : D}, (ρ.set i (.fro (.tal d)))[j]? = some cj → cj.held = some dj → ρ[j]? = some cj := fun {j cj dj} e1 e2 => by
      by_cases hj : i = j
      · subst hj
        rw [List.getElem?_set_self hil] at e1
        cases e1; cases e2
      · rw [List.getElem?_set_ne hj] at e1; exact e1
    exact r.inj j k cj ck dj dk q (old h1 h3) (old h2 h4) h3 h4 h5 h6
  · have hip := List.mem_filter.mp hip
    obtain ⟨⟨d', e1⟩, e2⟩ := r.ios ip hip.1
    have hn : i ≠ ip.1 := fun e => by have z := hip.2; rw [← e] at z; simp at z
    exact ⟨⟨d', by rw [List.getElem?_set_ne hn]; exact e1⟩, e2⟩
  · by_cases hj : i = j
    · subst hj
      rw [List.getElem?_set_self hil] at e
      cases e
    · rw [List.getElem?_set_ne hj] at e
      obtain ⟨q, hq⟩ := r.ioc j d' e
      exact ⟨q, List.mem_filter.mpr ⟨hq, by simpa using fun z => hj z.symm⟩⟩
/-- .. and taken back: nothing that is kept leans on it -/
theorem Rel.thawT {F' H' : Hp} (rel : Rel K io R ρ F σ H) {i : Nat} {c : Cell} {d : D} {p : Addr} {C dx : Addr} {fs : List (Str × V)} (hc : ρ[i]? = some c) (hh : c.held = some (.tal d)) (hp : σ[i]? = some (some (.ref p))) (nF : F p = none) (nR : R p = none) (ow : OwnObj K F p (.ins C dx fs) (.tal d))
    (le : FLe (L2.upd F p (.ins C dx fs)) F') (rel2 : Rel K (ioBut io i) R (ρ.set i (.fro (.tal d))) F' σ H') (hfree : (ρ.set i .no).all cellFreeT = true) :
    FLe F (eraseH F' p) ∧ Rel K io R ρ (eraseH F' p) σ H' := by
  have hpF : F' p = some (.ins C dx fs) := le _ _ upd_same
  have hpH : H' p = some (.ins C dx fs) := rel2.fH _ _ hpF
  have leF : FLe F (eraseH F' p) := fun a u ea => by
    have ne : a ≠ p := fun z => by subst z; rw [nF] at ea; cases ea
    rw [erase_ne ne]
    exact le _ _ (by show upd F p _ a = _; rw [upd_ne ne]; exact ea)
  refine ⟨leF, fun a u ea => ?_, fun a u ea => rel2.rH _ _ ea, fun a u ea => ?_, rel.len, fun j cj vj f1 f2 => ?_, rel.inj, rel.ios, rel.ioc, fun t ht => ?_, fun a ps z => ?_⟩
  · by_cases z : a = p
    · subst z; rw [erase_same] at ea; cases ea
    · rw [erase_ne z] at ea; exact rel2.fH _ _ ea
  · by_cases z : a = p
    · subst z; exact nR
    · rw [erase_ne z] at ea; exact rel2.dj _ _ ea
  · by_cases hj : j = i
    · subst hj
      rw [hc] at f1
      cases f1
      rw [hp] at f2
      cases f2
      have own : OwnAt K (eraseH F' p) R H' p (.tal d) := ⟨erase_same, nR, _, hpH, ow.mono leF⟩
      cases c with
      | no => cases hh
      | fro _ => cases hh
      | own _ => cases hh; exact ⟨p, rfl, own⟩
      | io _ => cases hh; exact ⟨p, rfl, own⟩
    · have c0 := rel.cell j cj vj f1 f2
      have f1' : (ρ.set i (.fro (.tal d)))[j]? = some cj := by rw [List.getElem?_set_ne (fun z => hj z.symm)]; exact f1
      have c2 := rel2.cell j cj vj f1' f2
      have fr : cellFreeT cj = true := by
        have : (ρ.set i .no)[j]? = some cj := by rw [List.getElem?_set_ne (fun z => hj z.symm)]; exact f1
        exact List.all_eq_true.mp hfree cj (List.mem_of_getElem? this)
      have keep : ∀ {d' : D} {p' : Addr}, cj.held = some d' → heldFreeT d' = true → vj = some (.ref p') → OwnAt K F' R H' p' d' → OwnAt K (eraseH F' p) R H' p' d' := fun {d' p'} hh2 hd hvv q => by
        have ne : p' ≠ p := fun z => by
          subst z
          subst hvv
          exact hj (rel.inj j i cj _ d' _ p' f1 hc hh2 hh f2 hp)
        obtain ⟨o', g1, g2⟩ := q.at_
        exact ⟨by rw [erase_ne ne]; exact q.nF, q.nR, o', g1, g2.eraseT hpF hd⟩
      cases cj with
      | no => trivial
      | fro d' => obtain ⟨y, rfl, ry⟩ := c0; exact ⟨y, rfl, ry.mono leF⟩
      | own d' => obtain ⟨p', rfl, oy⟩ := c2; exact ⟨p', rfl, keep rfl fr rfl oy⟩
      | io d' => obtain ⟨p', rfl, oy⟩ := c2; exact ⟨p', rfl, keep rfl fr rfl oy⟩
  · obtain ⟨t1, t2, t3, ps, t4, t5, t6⟩ := rel2.tab t ht
    have ne : t.1 ≠ p := fun z => by rw [z] at t1; rw [hpF] at t1; cases t1
    refine ⟨by rw [erase_ne ne]; exact t1, t2, t3, ps, t4, t5, fun pos cv z => ?_⟩
    obtain ⟨c, g1, g2⟩ := t6 pos cv z
    refine ⟨c, g1, ?_⟩
    rw [erase_ne fun z => by subst z; rw [hpF] at g2; unfold LamX.CodeO at g2; cases g2]
    exact g2
  · by_cases h : a = p
    · subst h; rw [erase_same] at z; cases z
    · rw [erase_ne h] at z; exact rel2.nt _ _ z
end
open Classical in
/-- s, which reads the tally that the variable at i holds as data; nothing else of the environment may change -/
noncomputable def sLendT (i : Nat) (s : SE) : SE := fun ρ => match held ρ i with
  | some (.tal d) => match s (ρ.set i (.fro (.tal d))) with
    | .ok v ρ' => if ρ' = ρ.set i (.fro (.tal d)) ∧ v.tfree = true ∧ (ρ.set i .no).all cellFreeT = true then .ok v ρ else .stuck
    | _ => .stuck
  | _ => .stuck
section
variable {G : Gx} {X : Cx} {W : WX} {e : Expr} {s : SE}
theorem d_lendT {i : Nat} (h : DE G X W e s) : DE G X W e (sLendT i s) := wkE h fun σ H Q ⟨ρ, F, Rv, io, rel, q⟩ => by
  unfold sLendT at q
  cases e0 : held ρ i with
  | none => rw [e0] at q; exact q.elim
  | some d0 =>
    rw [e0] at q
    cases d0 with
    | tal d =>
      simp only at q
      obtain ⟨c, e1, hh⟩ : ∃ c, ρ[i]? = some c ∧ c.held = some (.tal d) := by
        unfold held at e0
        cases e3 : ρ[i]? with
        | none => rw [e3] at e0; cases e0
        | some c => rw [e3] at e0; exact ⟨c, rfl, e0⟩
      cases e2 : s (ρ.set i (.fro (.tal d))) with
      | stuck => rw [e2] at q; exact q.elim
      | exc x ρ' => rw [e2] at q; exact q.elim
      | ok v ρ' =>
        rw [e2] at q
        simp only at q
        by_cases hcc : ρ' = ρ.set i (.fro (.tal d)) ∧ v.tfree = true ∧ (ρ.set i .no).all cellFreeT = true
        case neg => rw [if_neg hcc] at q; exact q.elim
        rw [if_pos hcc] at q
        obtain ⟨rfl, hv, hfree⟩ := hcc
        obtain ⟨p, e3, w⟩ := rel.heldAt e1 hh
        obtain ⟨o, e4, ow⟩ := w.at_
        have ow' := ow
        obtain ⟨l, dx, x, rfl, r⟩ := ow
        obtain ⟨le1, rel1⟩ := rel.freezeT e1 hh e3 e4 ow'
        refine ⟨ρ.set i (.fro (.tal d)), _, Rv, ioBut io i, rel1, ?_⟩
        rw [e2]
        intro y H' F' le2 rel2 rp2
        obtain ⟨leF, rel3⟩ := rel.thawT e1 hh e3 w.nF w.nR ow' le2 rel2 hfree
        exact q y _ _ leF rel3 (rp2.eraseT (le2 _ _ upd_same) hv)
    | _ => exact q.elim
end
theorem ev_lendT (i : Nat) (s : SE) (ρ : Env) {d : D} (h : held ρ i = some (.tal d)) {v : D} (e : s (ρ.set i (.fro (.tal d))) = .ok v (ρ.set i (.fro (.tal d)))) (hv : v.tfree = true) (hc : (ρ.set i .no).all cellFreeT = true) : sLendT i s ρ = .ok v ρ := by
  unfold sLendT
  rw [h]
  show (match s (ρ.set i (.fro (.tal d))) with | .ok v ρ' => _ | _ => _) = _
  rw [e]
  exact if_pos ⟨rfl, hv, hc⟩
end Dt
set_option Elab.async false
set_option linter.all false
set_option maxRecDepth 100000
set_option maxHeartbeats 4000000
namespace Dt
open PySem PySem.Spec PyProof.Rows L2
variable [HW]
/-- a property that may be read -/
structure CalPr (P : Program) (w : World) (K : PySem.W.Frag) (mg : Str → Option Value) (base : Heap) (m : Str) (k : Nat) (sp : Sp) : Prop where
  there : ∃ p g fd ps, PropOf K (TC K) m p g ∧ FnOk P w K mg base (L2N.CX P w) k g fd ps sp ∧ Binds K fd ps []
section
variable {ex : Exx} {X : Cx} {W : WX} {a b e o : Expr} {es : List Expr} {p pos apos : Pos} {so sa : SO} {se : SE} {sA : SA} {m : Str} {k n : Nat} {g : List D → FR}
def sProp (g : List D → FR) (s : SE) : SE := fun ρ => (s ρ).bind fun x ρ' => match x with
  | .tal d => match g [.tal d] with
    | .ok v _ => .ok v ρ'
    | _ => .stuck
  | _ => .stuck
theorem passes0 {E : Value → Shared → Prop} {X : Cx} (pins : List (Addr × Obj)) (σ : L2.St) (H : Hp) (s : Shared) (e : Value) (s' : Shared) (c : L2N.CX X.prog X.w X.stack H s (fun _ _ _ => False) e s') : E e s' := by
  obtain ⟨_, _, _, _, _, _, _, _, _, _, _, _, z⟩ := c
  exact z.elim
theorem d_prop (T : TalC X.K) (C : CalPr X.prog X.w X.K X.mg X.base m k (spP (GK X ex) 1 g)) (hr : Room (k + 1) X.A) (ho : DE (GK X ex) X W o se) (hab : attributeBase o m X.env (eval o X.env) = eval o X.env := by rfl) : DE (GK X ex) X W (.Attribute o m pos) (sProp g se) :=
  let ⟨p, f, fd, ps, hp, F, hb⟩ := C.there
  wkE (pe_prop (dvs := []) (ds := []) (E := fun _ _ _ => False) ho T.cl hp F hr hb .nil (fun pins σ H s e s' _ c => passes0 pins σ H s e s' c) hab) fun σ H Q ⟨ρ, F, Rv, io, rel, q⟩ => by
    refine ⟨ρ, F, Rv, io, rel, ?_⟩
    unfold sProp at q
    cases e1 : se ρ with
    | stuck => rw [e1] at q; exact q.elim
    | exc x ρ' => rw [e1] at q; exact q
    | ok x ρ1 =>
      rw [e1, R.bind_ok] at q
      intro v H1 F1 le rel1 rp
      cases x with
      | tal d =>
        simp only at q
        have rp' := rp
        cases rp with
        | tal t r =>
          refine ⟨_, _, _, rfl, rel1.fH _ _ t, [.tal d], F1, restOf F1 H1 none, rfl, restOf_apart rel1 none, .cons rp' .nil, ?_⟩
          cases e3 : g [.tal d] with
          | stuck => rw [e3] at q; exact q.elim
          | exc x => rw [e3] at q; exact q.elim
          | ok z o => rw [e3] at q; exact fun v H' F' le3 ap rp => q v H' F' (le.trans le3) (rel1.behind le3 ap) rp
      | _ => exact q.elim
end
section
variable {P : Program} {w : World} {K : PySem.W.Frag} {mg : Str → Option Value} {base : Heap}
/-- a property of the text as it stands -/
structure FnP (K : PySem.W.Frag) (m qual : Str) (st : Stmt) (ps : List Str) : Prop where
  there : ∃ p g fd, PropOf K (TC K) m p g ∧ Fun K m qual st g fd ∧ Binds K fd ps []
theorem calPr_P {m q : Str} {st : Stmt} {N ps : List Str} {k : Nat} {body : SS} (ea : String → Addr) (F : FnP K m q st ps) (S : FnScope N ps (defScope st))
    (h : ∀ (f : Addr) (cdv : Value) (A : Around) (outer : List PySem.Env) (s : Shared) (H : Hp) (E : XK), Room k (A.deeper (envOfC q (defScope st) s.heap.objs.size f cdv)) →
      DSs ⟨K, ⟨ea, []⟩⟩ (cxOf (L2N.CX P w) P w K mg base N q (defScope st) f cdv A outer s H E) (wE E) (defBody st) body) : CalPr P w K mg base m (k + 1) (spP ⟨K, ⟨ea, []⟩⟩ ps.length (runP N.length ps.length body)) := by
  obtain ⟨p, f, fd, hp, F, hb⟩ := F.there
  exact ⟨p, f, fd, ps, hp, d_defP ea F S (h f), hb⟩
end
def spIF (G : Gx) (n : Nat) (g : List D → Option D) : Sp := fun vs H Q _ => ∃ p ws d0 ds F Rv, vs = .ref p :: ws ∧ vs.length = n ∧ Apart F Rv H ∧ OwnAt G.K F Rv H p d0 ∧ Rps G.K F ws ds ∧
  ∃ d, g (d0 :: ds) = some d ∧ ∀ q H' F', FLe F F' → Apart F' Rv H' → OwnAt G.K F' Rv H' p d0 → OwnAt G.K F' Rv H' q d → q ≠ p → Q (.ref q) H'
def tSsF (G : Gx) (W : WX) (s1 : SS) (se : SE) : TS := fun D σ H => ∃ ρ F Rv, ∃ io : Io G.ex.tabs, Rel G.K io Rv ρ F σ H ∧ ∃ ρ1 d ρ2, s1 ρ = .ok .nx ρ1 ∧ se ρ1 = .ok d ρ2 ∧
  ∀ q σ' H' F', FLe F F' → Rel G.K io Rv ρ2 F' σ' H' → OwnAt G.K F' Rv H' q d → Loose ρ2 σ' q → D.rt (.ref q) H'
section
variable {G : Gx} {X : Cx} {W : WX} {s1 : Stmt} {e : Expr} {pos : Pos} {ss : SS} {se : SE}
theorem d_newR1 (h : DF G X W e se) : PSs X [.Return (some e) pos] (tSsF G W sNx se) := wkSs (pss_one (ps_ret h)) fun D σ H ⟨ρ, F, Rv, io, rel, ρ1, d, ρ2, e1, e2, q⟩ => by
  cases e1
  refine ⟨ρ, F, Rv, io, rel, ?_⟩
  rw [e2]
  exact fun q0 H' F' le rel' ow lo => q q0 σ H' F' le rel' ow lo
theorem d_newR2 (h1 : DS G X W s1 ss) (h : DF G X W e se) : PSs X [s1, .Return (some e) pos] (tSsF G W ss se) := wkSs (pss_cons h1 (pss_one (ps_ret h))) fun D σ H ⟨ρ, F, Rv, io, rel, ρ1, d, ρ2, e1, e2, q⟩ => by
  refine ⟨ρ, F, Rv, io, rel, ?_⟩
  rw [e1]
  intro σ' H' F' le rel'
  refine ⟨ρ1, F', Rv, io, rel', ?_⟩
  rw [e2]
  exact fun q0 H2 F2 le2 rel2 ow lo => q q0 σ' H2 F2 (le.trans le2) rel2 ow lo
end
section
variable {P : Program} {w : World} {K : PySem.W.Frag} {mg : Str → Option Value} {base : Heap}
open Classical in
/-- what it computes, where the lent one is left as it was -/
noncomputable def runNew (m n : Nat) (s1 : SS) (se : SE) : List D → Option D := fun ds => match ds with
  | [] => none
  | d0 :: ds => match s1 (Cell.io d0 :: ds.map Cell.fro ++ List.replicate (m - n) Cell.no) with
    | .ok .nx ρ1 => match se ρ1 with
      | .ok d ρ2 => if ρ2[0]? = some (.io d0) then some d else none
      | _ => none
    | _ => none
theorem runNew_some {m n : Nat} {s1 : SS} {se : SE} {d0 d : D} {ds : List D} (h : runNew m n s1 se (d0 :: ds) = some d) : ∃ ρ1 ρ2, s1 (Cell.io d0 :: (ds.map Cell.fro ++ List.replicate (m - n) Cell.no)) = .ok .nx ρ1 ∧ se ρ1 = .ok d ρ2 ∧ ρ2[0]? = some (.io d0) := by
  unfold runNew at h
  simp only [List.cons_append] at h
  cases e1 : s1 (Cell.io d0 :: (ds.map Cell.fro ++ List.replicate (m - n) Cell.no)) with
  | stuck => rw [e1] at h; cases h
  | exc x ρ => rw [e1] at h; cases h
  | ok f ρ1 =>
    rw [e1] at h
    cases f with
    | nx =>
      simp only at h
      cases e2 : se ρ1 with
      | stuck => rw [e2] at h; cases h
      | exc x ρ => rw [e2] at h; cases h
      | ok d' ρ2 =>
        rw [e2] at h
        simp only at h
        by_cases hc : ρ2[0]? = some (.io d0)
        · rw [if_pos hc] at h; cases h; exact ⟨ρ1, ρ2, rfl, e2, hc⟩
        · rw [if_neg hc] at h; cases h
    | _ => cases h
theorem d_defIF {x qual : Str} {st : Stmt} {f : Addr} {fd : FuncData} {N ps : List Str} {k : Nat} {s1 : SS} {se : SE} (ea : String → Addr) (F : Fun K x qual st f fd) (S : FnScope N ps (defScope st))
    (h : ∀ (cdv : Value) (A : Around) (outer : List PySem.Env) (s : Shared) (H : Hp) (E : XK), Room k (A.deeper (envOfC qual (defScope st) s.heap.objs.size f cdv)) →
      PSs (cxOf (L2N.CX P w) P w K mg base N qual (defScope st) f cdv A outer s H E) (defBody st) (tSsF ⟨K, ⟨ea, []⟩⟩ (wE E) s1 se)) : FnOk P w K mg base (L2N.CX P w) (k + 1) f fd ps (spIF ⟨K, ⟨ea, []⟩⟩ ps.length (runNew N.length ps.length s1 se)) := by
  refine okN F S (fun vs H Q E ⟨_, _, _, _, _, _, _, hl, _⟩ => hl) fun cdv A outer s H vs Q E hr ⟨p, ws, d0, ds, F0, Rv, hv, hl, ap, ow, r, d, eg, q⟩ => ⟨_, h cdv A outer s H E hr, ?_⟩
  have e0 : L2.start N vs = some (.ref p) :: (ws.map some ++ List.replicate (N.length - ps.length) none) := by unfold L2.start; rw [hl, hv]; rfl
  rw [e0]
  obtain ⟨ρ1, ρ2, e1, e2, e3⟩ := runNew_some eg
  refine ⟨_, F0, Rv, { l := [(0, p)] }, rel_startI ap ow r, ρ1, d, ρ2, e1, e2, fun q0 σ' H' F' le rel own lo => ?_⟩
  obtain ⟨_, s0⟩ := rel.ios (0, p) (List.mem_singleton.mpr rfl)
  obtain ⟨p', e4, w⟩ := rel.heldAt e3 rfl
  rw [s0] at e4
  cases e4
  refine q q0 H' F' le ⟨rel.fH, rel.rH, rel.dj, rel.nt⟩ w own fun z => ?_
  subst z
  exact lo 0 _ _ e3 rfl s0
/-- a method of this kind that may be called -/
structure FnMF (K : PySem.W.Frag) (m qual : Str) (st : Stmt) (ps : List Str) : Prop where
  there : ∃ f fd, Fun K m qual st f fd ∧ PySem.W.findIn K (.ref (TC K)) m = some (some (.ref f)) ∧ PySem.W.isFn K (.ref f) = true ∧ PySem.W.fnIn K f = true ∧ Binds K fd ps []
structure CalMF (P : Program) (w : World) (K : PySem.W.Frag) (mg : Str → Option Value) (base : Heap) (m : Str) (k : Nat) (sp : Sp) : Prop where
  there : ∃ f fd ps, FnOk P w K mg base (L2N.CX P w) k f fd ps sp ∧ PySem.W.findIn K (.ref (TC K)) m = some (some (.ref f)) ∧ PySem.W.isFn K (.ref f) = true ∧ PySem.W.fnIn K f = true ∧ Binds K fd ps []
theorem calM_F {m q : Str} {st : Stmt} {N ps : List Str} {k : Nat} {s1 : SS} {se : SE} (ea : String → Addr) (F : FnMF K m q st ps) (S : FnScope N ps (defScope st))
    (h : ∀ (f : Addr) (cdv : Value) (A : Around) (outer : List PySem.Env) (s : Shared) (H : Hp) (E : XK), Room k (A.deeper (envOfC q (defScope st) s.heap.objs.size f cdv)) →
      PSs (cxOf (L2N.CX P w) P w K mg base N q (defScope st) f cdv A outer s H E) (defBody st) (tSsF ⟨K, ⟨ea, []⟩⟩ (wE E) s1 se)) : CalMF P w K mg base m (k + 1) (spIF ⟨K, ⟨ea, []⟩⟩ ps.length (runNew N.length ps.length s1 se)) := by
  obtain ⟨f, fd, F, h1, h2, h3, hb⟩ := F.there
  exact ⟨f, fd, ps, d_defIF ea F S (h f), h1, h2, h3, hb⟩
end
section
variable {ex : Exx} {X : Cx} {W : WX} {a b e o : Expr} {p pos apos : Pos} {se : SE} {k : Nat} {g : List D → Option D}
theorem run_atA {A : Around} {f : Addr} {fd : FuncData} {ps : List Str} {sp : Sp} {pins : List (Addr × Obj)} {σ : L2.St} {H : Hp} {s : Shared} {Q : VK} {us : List Value} {vs : List V} {E : XK} (F : FnOk X.prog X.w X.K X.mg X.base (L2N.CX X.prog X.w) k f fd ps sp) (hr : Room k A) (e0 : Env0 X.prog X.w X.K X.mg X.base A X.stack s H) (hb : Binds X.K fd ps [])
    (I : Inv X pins σ H s) (hE : ∀ er s', L2N.CX X.prog X.w X.stack H s E er s' → X.xe er s') (r : Vals vs us) (h : sp vs H Q E) : wpAny (model X.prog X.w) A (call (.ref f) us) (EP X pins σ Q) X.xe s := by
  have hl : us.length = ps.length := by rw [← r.length]; exact F.len _ _ _ _ h
  have b := hb s us I.kIn (by rw [List.append_nil]; exact hl)
  rw [List.append_nil] at b
  refine wpAny_call (codeAny_mono (F.run A X.stack s H ⟨us, []⟩ us vs Q E hr e0 b r h) fun r s' hq => ?_)
  cases r with
  | error e => exact hE e s' hq
  | ok fl =>
    cases fl with
    | ret u => exact I.after hq
    | next => exact False.elim hq
    | brk => exact False.elim hq
    | cont => exact False.elim hq
/-- x op y: both tallies -/
def rBinT (K : PySem.W.Frag) (sp : Sp) : R2 := fun x y H Q => ∃ a dx fs b dy gs, x = .ref a ∧ y = .ref b ∧ H a = some (.ins (TC K) dx fs) ∧ H b = some (.ins (TC K) dy gs) ∧ sp [x, y] H Q fun _ _ _ => False
theorem op_binT {op : Operator} {sp : Sp} (C : CalMF X.prog X.w X.K X.mg X.base (PySem.dunder op.info.2) k sp) (hc : PySem.W.selfFirst X.K (TC X.K) = true) (hr : Room k X.A) : OpR X (binaryOp op) (rBinT X.K sp) := by
  intro pins s σ H x y v u Q I rx ry h
  obtain ⟨a, dx, fs, b, dy, gs, rfl, rfl, ha, hb, q⟩ := h
  cases (show v = Value.ref a from rx)
  cases (show u = Value.ref b from ry)
  obtain ⟨f, fd, ps, F, h1, h2, _, hbd⟩ := C.there
  obtain ⟨mA, O, _⟩ := ins_get I.hok ha
  obtain ⟨od, J, _⟩ := O.look
  obtain ⟨mB, O', _⟩ := ins_get I.hok hb
  obtain ⟨od', J', _⟩ := O'.look
  obtain ⟨m, hF⟩ := I.fr
  refine PySem.W.binop_K hF I.ok.mod.kin J J'.type hc h1 h2 (wpAny_mono (run_atA (us := [.ref a, .ref b]) (vs := [.ref a, .ref b]) F hr I.env0 hbd I (fun er s' c => passes0 pins σ H s er s' c) (.cons rfl (.cons rfl .nil)) q) (fun v' s' z => ?_) fun _ _ x => x)
  obtain ⟨z', H', I', rz, qz⟩ := z
  cases z' with
  | ref c => cases (show v' = Value.ref c from rz); exact ⟨.ref c, H', I', rfl, qz⟩
  | non => cases (show v' = Value.none from rz); exact ⟨.non, H', I', rfl, qz⟩
  | bl b => cases (show v' = Value.bool b from rz); exact ⟨.bl b, H', I', rfl, qz⟩
  | int i => obtain ⟨t, e⟩ := (show ∃ t, v' = Value.int i t from rz); cases e; exact ⟨.int i, H', I', ⟨t, rfl⟩, qz⟩
  | str x => obtain ⟨t, e⟩ := (show ∃ t, v' = Value.str x t from rz); cases e; exact ⟨.str x, H', I', ⟨t, rfl⟩, qz⟩
  | byt b => obtain ⟨t, e⟩ := (show ∃ t, v' = Value.bytes b t from rz); cases e; exact ⟨.byt b, H', I', ⟨t, rfl⟩, qz⟩
  | flt b => obtain ⟨t, e⟩ := (show ∃ t, v' = Value.float b t from rz); cases e; exact ⟨.flt b, H', I', ⟨t, rfl⟩, qz⟩
  | ty n => cases (show v' = Value.type n from rz); exact ⟨.ty n, H', I', rfl, qz⟩
def sBinT (i : Nat) (g : List D → Option D) (se : SE) : SE := fun ρ => match held ρ i with
  | some (.tal _) => (se ρ).bind fun d ρ' => match held ρ' i with
    | some (.tal d0) => match d with
      | .tal d1 => ofO (g [.tal d0, .tal d1]) ρ'
      | _ => .stuck
    | _ => .stuck
  | _ => .stuck
theorem put_same {ρ : Env} {i : Nat} {c : Cell} {d : D} (hc : ρ[i]? = some c) (hh : c.held = some d) : ρ.set i (c.put d) = ρ := by
  have : c.put d = c := by cases c <;> first | (cases hh; rfl) | cases hh
  rw [this]
  exact List.ext_getElem? fun j => by
    by_cases hj : i = j
    · subst hj; rw [List.getElem?_set_self (List.getElem?_eq_some_iff.mp hc).1, hc]
    · rw [List.getElem?_set_ne hj]
/-- what comes back from such a def -/
theorem new_back {K : PySem.W.Frag} {T : List (Addr × Str)} {io : Io T} {Rv F F' H H' : Hp} {ρ : Env} {σ : L2.St} {i : Nat} {c : Cell} {d0 d : D} {p q : Addr} (rel : Rel K io Rv ρ F σ H) (hc : ρ[i]? = some c) (hh : c.held = some d0) (hp : σ[i]? = some (some (.ref p)))
    (le : FLe F F') (ap : Apart F' (restOf F H (some p)) H') (ow : OwnAt K F' (restOf F H (some p)) H' p d0) (oq : OwnAt K F' (restOf F H (some p)) H' q d) (ne : q ≠ p) : Rel K io Rv ρ F' σ H' ∧ OwnAt K F' Rv H' q d ∧ Loose ρ σ q := by
  have z := rel.behindI hc hh hp le ap ow
  rw [put_same hc hh] at z
  have hq : H q = none := by
    cases e : H q with
    | none => rfl
    | some o =>
      have e2 : restOf F H (some p) q = some o := by
        unfold restOf
        rw [if_pos ⟨le.noneOf oq.nF, fun z => ne (Option.some.inj z).symm⟩]
        exact e
      rw [oq.nR] at e2
      cases e2
  exact ⟨z, ⟨oq.nF, rel.rH.noneOf hq, oq.at_⟩, rel.loose hq⟩
theorem d_binT {op : Operator} {i : Nat} (C : CalMF X.prog X.w X.K X.mg X.base (PySem.dunder op.info.2) k (spIF (GK X ex) 2 g)) (hc : PySem.W.selfFirst X.K (TC X.K) = true) (hr : Room k X.A) (ha : PE X a (tVar i)) (hb : DE (GK X ex) X W b se) :
    DF (GK X ex) X W (.BinOp a op b pos) (sBinT i g se) := wkE (pe_op (op_binT C hc hr) ha hb) fun σ H Q ⟨ρ, F, Rv, io, rel, q⟩ => by
  unfold sBinT at q
  cases e0 : held ρ i with
  | none => rw [e0] at q; exact q.elim
  | some d00 =>
    rw [e0] at q
    cases d00 with
    | tal dd =>
      simp only at q
      obtain ⟨p0, ob, e1, e1h, _, _⟩ := put_own (G := GK X ex) (d' := .tal dd) rel e0
      refine ⟨_, e1, ρ, F, Rv, io, rel, ?_⟩
      cases e2 : se ρ with
      | stuck => rw [e2] at q; exact q.elim
      | exc x ρ' => rw [e2] at q; exact q
      | ok d ρ' =>
        rw [e2] at q
        simp only [R.bind_ok] at q
        intro v H1 F1 le rel1 rp
        cases e3 : held ρ' i with
        | none => rw [e3] at q; exact q.elim
        | some d0' =>
          rw [e3] at q
          cases d0' with
          | tal d0 =>
            cases d with
            | tal d1 =>
              simp only at q
              cases e5 : g [.tal d0, .tal d1] with
              | none => rw [e5] at q; exact q.elim
              | some z =>
                rw [e5] at q
                obtain ⟨c, hc1, hh⟩ : ∃ c, ρ'[i]? = some c ∧ c.held = some (.tal d0) := by
                  unfold held at e3
                  cases e4 : ρ'[i]? with
                  | none => rw [e4] at e3; cases e3
                  | some c => rw [e4] at e3; exact ⟨c, rfl, e3⟩
                obtain ⟨p', e4, w⟩ := rel1.heldAt hc1 hh
                rw [e1] at e4
                cases e4
                obtain ⟨ob', h2', h2o⟩ := w.at_
                have h2o' := h2o
                obtain ⟨_, dx, xx, rfl, _⟩ := h2o
                have rp' := rp
                cases rp with
                | tal t r =>
                  have nR : restOf F1 H1 (some p0) p0 = none := by unfold restOf; rw [if_neg (fun z => z.2 rfl)]
                  refine ⟨p0, dx, _, _, _, _, rfl, rfl, h2', rel1.fH _ _ t, p0, _, .tal d0, [.tal d1], F1, restOf F1 H1 (some p0), rfl, rfl, restOf_apart rel1 _, ⟨w.nF, nR, _, h2', h2o'⟩, .cons rp' .nil, z, e5, fun q0 H' F' le2 ap ow oq ne => ?_⟩
                  obtain ⟨r3, o3, l3⟩ := new_back rel1 hc1 hh e1 le2 ap ow oq ne
                  exact q q0 H' F' (le.trans le2) r3 o3 l3
            | _ => exact q.elim
          | _ => exact q.elim
    | _ => exact q.elim
/-- +x, -x -/
def rUnT (K : PySem.W.Frag) (sp : Sp) : V → Hp → VK → Prop := fun x H Q => ∃ a dx fs, x = .ref a ∧ H a = some (.ins (TC K) dx fs) ∧ sp [x] H Q fun _ _ _ => False
theorem un_posT {sp : Sp} (C : CalMF X.prog X.w X.K X.mg X.base "__pos__" k sp) (hr : Room k X.A) : UnR X (unaryOp .UAdd) (rUnT X.K sp) := by
  intro pins s σ H x v Q I rx h
  obtain ⟨a, dx, fs, rfl, ha, q⟩ := h
  cases (show v = Value.ref a from rx)
  obtain ⟨f, fd, ps, F, h1, h2, _, hbd⟩ := C.there
  obtain ⟨mA, O, _⟩ := ins_get I.hok ha
  obtain ⟨od, J, _⟩ := O.look
  obtain ⟨m, hF⟩ := I.fr
  exact PySem.W.ksp_pos hF I.ok.mod.kin J h1 h2 (run_atA (us := [.ref a]) (vs := [.ref a]) F hr I.env0 hbd I (fun er s' c => passes0 pins σ H s er s' c) (.cons rfl .nil) q)
theorem un_negT {sp : Sp} (C : CalMF X.prog X.w X.K X.mg X.base "__neg__" k sp) (hr : Room k X.A) : UnR X (unaryOp .USub) (rUnT X.K sp) := by
  intro pins s σ H x v Q I rx h
  obtain ⟨a, dx, fs, rfl, ha, q⟩ := h
  cases (show v = Value.ref a from rx)
  obtain ⟨f, fd, ps, F, h1, h2, _, hbd⟩ := C.there
  obtain ⟨mA, O, _⟩ := ins_get I.hok ha
  obtain ⟨od, J, _⟩ := O.look
  obtain ⟨m, hF⟩ := I.fr
  exact PySem.W.ksp_neg hF I.ok.mod.kin J h1 h2 (run_atA (us := [.ref a]) (vs := [.ref a]) F hr I.env0 hbd I (fun er s' c => passes0 pins σ H s er s' c) (.cons rfl .nil) q)
def sUnT (i : Nat) (g : List D → Option D) : SE := fun ρ => match held ρ i with
  | some (.tal d0) => ofO (g [.tal d0]) ρ
  | _ => .stuck
theorem d_unT {op : UnaryOp} {i : Nat} (hop : UnR X (unaryOp op) (rUnT X.K (spIF (GK X ex) 1 g))) (ha : PE X a (tVar i)) : DF (GK X ex) X W (.UnaryOp op a pos) (sUnT i g) := wkE (pe_un hop ha) fun σ H Q ⟨ρ, F, Rv, io, rel, q⟩ => by
  unfold sUnT at q
  cases e0 : held ρ i with
  | none => rw [e0] at q; exact q.elim
  | some d00 =>
    rw [e0] at q
    cases d00 with
    | tal d0 =>
      simp only at q
      cases e5 : g [.tal d0] with
      | none => rw [e5] at q; exact q.elim
      | some z =>
        rw [e5] at q
        obtain ⟨c, hc1, hh⟩ : ∃ c, ρ[i]? = some c ∧ c.held = some (.tal d0) := by
          unfold held at e0
          cases e4 : ρ[i]? with
          | none => rw [e4] at e0; cases e0
          | some c => rw [e4] at e0; exact ⟨c, rfl, e0⟩
        obtain ⟨p0, e1, w⟩ := rel.heldAt hc1 hh
        obtain ⟨ob', h2', h2o⟩ := w.at_
        have h2o' := h2o
        obtain ⟨_, dx, xx, rfl, _⟩ := h2o
        have nR : restOf F H (some p0) p0 = none := by unfold restOf; rw [if_neg (fun z => z.2 rfl)]
        refine ⟨_, e1, p0, dx, _, rfl, h2', p0, [], .tal d0, [], F, restOf F H (some p0), rfl, rfl, restOf_apart rel _, ⟨w.nF, nR, _, h2', h2o'⟩, .nil, z, e5, fun q0 H' F' le2 ap ow oq ne => ?_⟩
        obtain ⟨r3, o3, l3⟩ := new_back rel hc1 hh e1 le2 ap ow oq ne
        exact q q0 H' F' le2 r3 o3 l3
    | _ => exact q.elim
end
end Dt
set_option Elab.async false
set_option linter.all false
set_option maxRecDepth 100000
set_option maxHeartbeats 4000000
namespace Dt
open PySem PySem.Spec PyProof.Rows L2
variable [HW]
section
variable {prog : Program} {w : World} {A : Around} {E : Value → Shared → Prop} {s : Shared} {K : PySem.W.Frag} {x C L f : Addr} {h₀ : Heap} {m : Str → Option Value} {ox : Obj} {od : Option Obj}
theorem isInst_no {M : Model} {T : String} {Q : Bool → Shared → Prop} (X : K.In s.heap) (I : PySem.W.InstAt s.heap x ox C od) (hs : PySem.W.subIn K (.ref C) (.type T) = some false) (h : Q false s) : wpAny M A (isInstance (.ref x) (.type T)) Q E s := by
  unfold isInstance
  exact wpAny_bind (I.type.here ((PySem.W.looks_subIn X hs).here h))
theorem tup_eq_inst {l : Addr} {items : Array Value} {n : Nat} {dd : Option Addr} {sl : Array (Option Value)} {Q : Value → Shared → Prop} (X : K.In s.heap) (I : PySem.W.InstAt s.heap x ox C od) (hs : PySem.W.subIn K (.ref C) (.type "tuple") = some false)
    (hl : s.heap.get? l = some { cls := .type "tuple", dict := dd, data := .seq items n, slots := sl }) (h : Q .notImplemented s) : wpAny (model prog w) A (call (.builtin "tuple.__eq__") [.ref l, .ref x]) Q E s := by
  refine GQ.call_here (T := "tuple") (name := "__eq__") F.slot_tuple_eq ⟨_, hl, rfl⟩ F.entry_tuple_eq (F.args_tuple_eq_2 _ _) ?_
  obtain ⟨hp, g, d, tk, os⟩ := s
  wp_walk using wpAny_loadPart' hl, isInst_no X I hs
  exact h
theorem int_eq_inst {i : Int} {t : Tok} {o : Obj} {Q : Value → Shared → Prop} (hx : s.heap.get? x = some o) (hd : o.data = .plain) (h : Q .notImplemented s) : wpAny (model prog w) A (call (.builtin "int.__eq__") [.int i t, .ref x]) Q E s := by
  refine GQ.call_here (T := "int") (name := "__eq__") F.slot_int_eq rfl F.entry_int_eq (F.args_int_eq_2 _ _) ?_
  obtain ⟨hp, g, d, tk, os⟩ := s
  obtain ⟨c, dd, dt, sl⟩ := o
  cases (show dt = .plain from hd)
  wp_walk using wpAny_loadPart' hx, wpAny_load hx
  exact h
/-- == where the own one tells NotImplemented, and the other's too: no -/
theorem ni_cmp {b : Value} {T idb : String} {Q : Value → Shared → Prop} (hu : A.units < cLine) (F : Fr h₀ L s.heap m) (X₀ : K.In h₀) (I : PySem.W.InstAt s.heap x ox C od) (hb : s.TypeIs b T) (hsub : PySem.W.subIn K (.type T) (.ref C) = some false)
    (hs : PySem.W.findIn K (.ref C) "__eq__" = some (some (.ref f))) (hf : PySem.W.isFn K (.ref f) = true) (slot : Slot T "__eq__" idb)
    (h : wpAny (model prog w) A (call (.ref f) [.ref x, b]) (fun v s1 => v = .notImplemented ∧ s1.TypeIs b T ∧ wpAny (model prog w) A (call (.builtin idb) [b, .ref x]) (fun v s2 => v = .notImplemented ∧ wpAny (model prog w) A (isSame (.ref x) b) (fun r s3 => r = false ∧ Q (.bool false) s3) E s2) E s1) E s) :
    wpAny (model prog w) A (richCompare .Eq (.ref x) b) Q E s := by
  have X := X₀.keeps F.keep
  unfold richCompare
  simp only [oneThing_ref]
  refine wpAny_holding (wpAny_bind (wpAny_cRoomFor hu ?_))
  refine wpAny_bind (I.type.here (wpAny_bind (wpAny_typeOf hb ?_)))
  have hne : ((Value.ref C) != (Value.type T)) = true := by
    rw [bne_iff_ne]
    exact fun z => nomatch z
  simp only [cmpInfo]
  rw [if_pos hne]
  refine wpAny_bind ((PySem.W.looks_subIn X hsub).here ?_)
  simp only [Bool.false_eq_true, if_false, Bool.not_false, if_true]
  refine wpAny_bind (m := tryCompare (.ref x) _ b) ?_
  unfold tryCompare
  refine wpAny_bind (PySem.W.ifBound_K X I hs hf (wpAny_mono h (fun v s1 hv => ?_) fun _ _ e => e))
  obtain ⟨rfl, hT, hv⟩ := hv
  refine wpAny_pure ?_
  refine wpAny_bind (m := tryCompare b _ (.ref x)) (wpAny_tryCompare_declines hT slot (wpAny_mono hv (fun v s2 h2 => ⟨h2.1, ?_⟩) fun _ _ e => e))
  refine wpAny_bind (wpAny_rule ?_)
  refine wpAny_bind (wpAny_mono h2.2 (fun r s3 h3 => ?_) fun _ _ e => e)
  obtain ⟨rfl, q⟩ := h3
  exact wpAny_pure q
theorem same_int {M : Model} {i : Int} {t : Tok} {Q : Bool → Shared → Prop} (h : Q false s) : wpAny M A (isSame (.ref x) (.int i t)) Q E s := by
  unfold isSame
  exact wpAny_pure h
theorem same_tup {M : Model} {l : Addr} {o o2 : Obj} {Q : Bool → Shared → Prop} (hx : s.heap.get? x = some o) (hl : s.heap.get? l = some o2) (hc : ∀ n, o.cls ≠ .type n) (ne : x ≠ l) (h : Q false s) : wpAny M A (isSame (.ref x) (.ref l)) Q E s := by
  unfold isSame
  have e : (x == l) = false := beq_eq_false_iff_ne.mpr ne
  simp only [e, Bool.false_eq_true, if_false]
  refine wpAny_bind (wpAny_load hx (wpAny_bind (wpAny_load hl ?_)))
  obtain ⟨c, dd, dt, sl⟩ := o
  cases c with
  | type n => exact (hc n rfl).elim
  | _ => exact wpAny_pure h
end
end Dt
set_option Elab.async false
set_option linter.all false
set_option maxRecDepth 100000
set_option maxHeartbeats 4000000
namespace Dt
open PySem PySem.Spec PyProof.Rows L2 SrtO
end Dt
set_option Elab.async false
set_option linter.all false
set_option maxRecDepth 100000
set_option maxHeartbeats 4000000
namespace Dt
open PySem PySem.Spec PyProof.Rows L2 HotX L2H
variable [HW]
theorem held_some {ρ : Env} {i : Nat} {d : D} (h : held ρ i = some d) : ∃ c, ρ[i]? = some c ∧ c.held = some d := by
  unfold held at h
  cases e3 : ρ[i]? with
  | none => rw [e3] at h; cases h
  | some c => rw [e3] at h; exact ⟨c, rfl, h⟩
end Dt
set_option Elab.async false
set_option linter.all false
set_option maxRecDepth 100000
set_option maxHeartbeats 4000000
namespace Dt
open PySem PySem.Spec PyProof.Rows L2
variable [HW]
/-- no object -/
def D.scal : D → Bool
  | .non => true
  | .bl _ => true
  | .int _ => true
  | .str _ => true
  | _ => false
theorem scal_any {K : PySem.W.Frag} {F F' : Hp} {v : V} {d : D} (r : Rp K F v d) (h : d.scal = true) : Rp K F' v d := by
  cases r with
  | non => exact .non
  | bl b => exact .bl b
  | int i => exact .int i
  | str s => exact .str s
  | _ => cases h
/-- a tally, or no object -/
def D.argT : D → Bool
  | .tal _ => true
  | d => d.scal
theorem Vw.mono {K : PySem.W.Frag} {F F1 H : Hp} {v : V} {d : D} (le : FLe F F1) (h : Vw K F H v d) : Vw K F1 H v d := by
  rcases h with h | ⟨p, o, e, h1, h2⟩
  · exact .inl (h.mono le)
  · exact .inr ⟨p, o, e, h1, h2.mono le⟩
theorem Vws.mono {K : PySem.W.Frag} {F F1 H : Hp} (le : FLe F F1) : ∀ {vs : List V} {ds : List D}, Vws K F H vs ds → Vws K F1 H vs ds
  | _, _, .nil => .nil
  | _, _, .cons a b => .cons (a.mono le) (b.mono le)
theorem Vw.froT {K : PySem.W.Frag} {F H : Hp} {v : V} {d : D} (fh : FLe F H) (nt : NoTb F) (h : Vw K F H v d) (ha : d.argT = true) : ∃ F1, FLe F F1 ∧ FLe F1 H ∧ NoTb F1 ∧ Rp K F1 v d := by
  rcases h with h | ⟨p, o, rfl, h1, h2⟩
  · exact ⟨F, FLe.refl F, fh, nt, h⟩
  · cases d with
    | tal d =>
      obtain ⟨lo, dx, x, rfl, r⟩ := h2
      cases e : F p with
      | none =>
        refine ⟨upd F p _, FLe.upd _ e, fun a u z => ?_, nt.upd lo, .tal upd_same (r.mono (FLe.upd _ e))⟩
        by_cases h : a = p
        · subst h; rw [upd_same] at z; cases z; exact h1
        · rw [upd_ne h] at z; exact fh a u z
      | some u =>
        have z := fh p u e
        rw [h1] at z
        cases z
        exact ⟨F, FLe.refl F, fh, nt, .tal e r⟩
    | _ => first | exact h2.elim | cases ha
theorem Vws.froT {K : PySem.W.Frag} {H : Hp} : ∀ {vs : List V} {ds : List D} {F : Hp}, FLe F H → NoTb F → Vws K F H vs ds → ds.all D.argT = true → ∃ F1, FLe F F1 ∧ FLe F1 H ∧ NoTb F1 ∧ Rps K F1 vs ds
  | _, _, F, fh, nt, .nil, _ => ⟨F, FLe.refl F, fh, nt, .nil⟩
  | _, _, F, fh, nt, .cons a b, ha => by
    rw [List.all_cons, Bool.and_eq_true] at ha
    obtain ⟨F1, l1, f1, n1, r1⟩ := a.froT fh nt ha.1
    obtain ⟨F2, l2, f2, n2, r2⟩ := Vws.froT f1 n1 (b.mono l1) ha.2
    exact ⟨F2, l1.trans l2, f2, n2, .cons (r1.mono l2) r2⟩
theorem apart_none {F H : Hp} (fh : FLe F H) (nt : NoTb F) : Apart F (restOf F H none) H := ⟨fh, restOf_le none, (fun a o e => by
  unfold restOf
  rw [if_neg (fun z => by rw [e] at z; cases z.1)]), nt⟩
section
variable {G : Gx} {W : WX} {n : Nat} {g : List D → FR}
theorem sp_scal {F H : Hp} {vs : List V} {ds o : List D} {d : D} {Q : VK} {E : XK} (fh : FLe F H) (nt : NoTb F) (vw : Vws G.K F H vs ds) (ha : ds.all D.argT = true) (hn : ds.length = n) (e : g ds = .ok d o) (hd : d.scal = true)
    (q : ∀ v H', FLe H H' → (∀ F', Rp G.K F' v d) → Q v H') : spP G n g vs H Q E := by
  obtain ⟨F1, le, fh1, nt1, rps⟩ := vw.froT fh nt ha
  refine ⟨ds, F1, restOf F1 H none, rps.length.trans hn, apart_none fh1 nt1, rps, ?_⟩
  rw [e]
  exact fun v H' F' le' ap rp => q v H' (fun a o z => apart_all fh1 le' ap z) fun F2 => scal_any rp hd
/-- the rule r computes g on operands that are looked at; what comes is no object -/
def PSemT (G : Gx) (r : RL) (g : List D → Option D) : Prop := ∀ F H vs ds d (Q : VK), FLe F H → NoTb F → Vws G.K F H vs ds → g ds = some d → (∀ v H', FLe H H' → (∀ F', Rp G.K F' v d) → Q v H') → r vs H Q
theorem opsT_core {r : RL} {g : List D → Option D} (hg : PSemT G r g) {s : SB} {σ : L2.St} {H : Hp} {Q : VK} (h : tE G W (sOps g s) σ H Q) : tB G W s σ H fun vs H' => r vs H' Q := by
  obtain ⟨ρ, F, Rv, io, rel, q⟩ := h
  refine ⟨ρ, F, Rv, io, rel, ?_⟩
  unfold sOps at q
  cases e : s ρ with
  | stuck => rw [e] at q; exact q.elim
  | exc x ρ' => rw [e] at q; exact q
  | ok os ρ' =>
    rw [e, R.bind_ok] at q
    refine fun vs H' F' le rel' ok => ?_
    cases e2 : getAll ρ' os with
    | none => rw [e2] at q; exact q.elim
    | some ds =>
      rw [e2, Option.bind_some] at q
      cases e3 : g ds with
      | none => rw [e3] at q; exact q.elim
      | some d =>
        rw [e3] at q
        exact hg F' H' vs ds d Q rel'.fH rel'.nt (rel'.views ok e2) e3 fun v H2 le2 rp => q v H2 F' le (rel'.after ⟨FLe.refl _, le2, rel'.fH.trans le2, (fun _ _ e => .inl e), id⟩) (rp F')
theorem two_opsT {r : R2} {g : List D → Option D} {sa sb : SO} {σ : L2.St} {H : Hp} {Q : VK} (hg : PSemT G (r2L r) g) (h : tE G W (sOps g (b2 sa sb)) σ H Q) : tO G W sa σ H fun x H1 => tO G W sb σ H1 fun y H2 => r x y H2 Q :=
  tO_mono (two_core (a := .Name Str.empty ⟨0, 0, 0, 0⟩) (b := .Name Str.empty ⟨0, 0, 0, 0⟩) (opsT_core hg h)) fun x H1 z => tO_mono z fun y H2 ⟨x', y', e, z'⟩ => by cases e; exact z'
theorem one_opsT {r : V → Hp → VK → Prop} {g : List D → Option D} {sa : SO} {σ : L2.St} {H : Hp} {Q : VK} (hg : PSemT G (r1L r) g) (h : tE G W (sOps g (b1 sa)) σ H Q) : tO G W sa σ H fun x H1 => r x H1 Q :=
  tO_mono (one_core (opsT_core hg h)) fun x H1 ⟨x', e, z'⟩ => by cases e; exact z'
end
section
variable {ex : Exx} {X : Cx} {W : WX} {a b e o : Expr} {es : List Expr} {p pos apos : Pos} {sa sb so : SO} {sB : SB} {k n : Nat} {g : List D → FR} {x : Str} {sp : Sp}
theorem call_bool_any {prog : Program} {w : World} {A : Around} {E : Value → Shared → Prop} {s : Shared} {v : Value} {Q : Value → Shared → Prop}
    (h : wpAny (model prog w) A.in1.in1 (truthy v) (fun b s' => Q (.bool b) s') E s) : wpAny (model prog w) A (call (.type "bool") [v]) Q E s := by
  refine callType_codes (T := "bool") (Bi := Builtin.«object.__init__») (Q₁ := fun r s₁ => ∃ b, r = Value.bool b ∧ Q r s₁) PySem.F.called_bool (PySem.F.typeCall_bool_1 _) PySem.F.entry_object_init ?_ ?_
  · refine codeAny_of_tree ?_
    show wpAny _ A.in1.in1 (do checkBuiltinCall "bool.__new__" ⟨[.type "bool", v], []⟩; again (.builtin "bool.__new__" ⟨[.type "bool", v], []⟩)) _ _ s
    refine wpAny_bind (wpAny_of_eq (PySem.F.newCall_bool_1 _) (wpAny_pure ⟨plainId_quiet (by decide +kernel) _, codeAny_builtin PySem.F.entry_bool_new ?_⟩))
    rw [Around.under_plainId (by decide +kernel) _]
    unfold Builtin.«bool.__new__»
    refine wpAny_bind (wpAny_of_eq (a := true) rfl ?_)
    refine PySem.W.KFB.if_not rfl ?_
    refine wpAny_bind (wpAny_of_eq (a := true) PySem.F.conv_sub_bool ?_)
    refine PySem.W.KFB.if_not rfl ?_
    refine wpAny_bind (wpAny_of_eq (a := [v]) rfl ?_)
    refine wpAny_bind (wpAny_mono h (fun b s' hq => ?_) fun _ _ x => x)
    exact wpAny_pure ⟨b, rfl, hq⟩
  · rintro obj s₁ ⟨b, rfl, hq⟩
    exact ⟨PySem.typeIs_bool _ _, PySem.F.args_object_init_2 _ _, object_init_meets PySem.F.called_bool.init.lookup PySem.F.called_bool.made (by decide) prog w A.in1 _ s₁ ⟨PySem.typeIs_bool _ _, rfl, hq⟩⟩
theorem rps_isEmpty {K : PySem.W.Frag} {F : Hp} {xs : List V} {ds : List D} (r : Rps K F xs ds) : xs.isEmpty = ds.isEmpty := by cases r <;> rfl
/-- bool(row), where the class's own is not known -/
theorem call_boolR : CallR X (.type "bool") (fun vs H Q => ∃ a xs, vs = [.ref a] ∧ SqT X.K H a xs ∧ Q (.bl (!xs.isEmpty)) H) := by
  intro pins s σ H xs us Q I r h
  obtain ⟨a, xs, rfl, hx, q⟩ := h
  obtain ⟨u, rfl, ru⟩ := vals1 r
  cases (show u = Value.ref a from ru)
  obtain ⟨its, r, pl, hz⟩ := I.tuple hx
  have hlen := r.length
  have hl := line63
  have hs : sizeLine = 16777216 := sizeLine_eq
  exact call_bool_any (truthy_tuple pl (by simp only [List.size_toArray]; omega) ⟨.bl _, H, I.tok _, rfl, by rw [isEmpty_of r]; exact q⟩)
def gBoolR (ds : List D) : Option D := match ds with
  | [.tup xs] => some (.bl (!xs.isEmpty))
  | [.etup] => some (.bl false)
  | _ => none
theorem psemT_boolR {G : Gx} : PSemT G (fun vs H Q => ∃ a xs, vs = [.ref a] ∧ SqT G.K H a xs ∧ Q (.bl (!xs.isEmpty)) H) gBoolR := fun F H vs ds d Q fh nt vw e q => by
  unfold gBoolR at e
  split at e
  · cases e
    obtain ⟨v, rfl, h1⟩ := vw.one
    obtain ⟨a, xs, rfl, hx, r⟩ := h1.sqT fh
    exact ⟨a, xs, rfl, hx, by rw [rps_isEmpty r]; exact q _ H (FLe.refl H) fun F' => .bl _⟩
  · cases e
    obtain ⟨v, rfl, h1⟩ := vw.one
    obtain ⟨a, rfl, ea⟩ := h1.etup
    exact ⟨a, [], rfl, ea.sq H, q _ H (FLe.refl H) fun F' => .bl _⟩
  · cases e
theorem d_boolR (hg : Gl X x) (hm : X.mg x = none) (ha : DB (GK X ex) X W (e :: es) sB) (hv : bootBuiltins x = some (.type "bool") := by decide +kernel) (hn : x ≠ "__name__" := by decide) (hdb : (x == ("__debug__" : Str)) = false := by decide)
    (he : starEach (e :: es) X.env = (false, eval e X.env) :: starEach es X.env := by rfl) (hpl : (backTo pos (starEach es X.env)).any (·.1) = false := by rfl) : DE (GK X ex) X W (.Call (.Name x p) (e :: es) [] pos) (sOps gBoolR sB) :=
  wkE (pe_callTy call_boolR hg hm hv ha hn hdb he hpl) fun σ H Q h => opsT_core psemT_boolR h
end
end Dt
set_option Elab.async false
set_option linter.all false
set_option maxRecDepth 100000
set_option maxHeartbeats 4000000
namespace Dt
open PySem PySem.Spec PyProof.Rows L2
variable [HW]
/-- its place among the types, for ==, operators and subscripts -/
structure TalE (K : PySem.W.Frag) : Prop where
  st : PySem.W.subIn K (.type "tuple") (.ref (TC K)) = some false
  si : PySem.W.subIn K (.type "int") (.ref (TC K)) = some false
  ts : PySem.W.subIn K (.ref (TC K)) (.type "tuple") = some false
  nf : PySem.W.notFirst K (TC K) (.ref (TC K)) = true
  sf : PySem.W.selfFirst K (TC K) = true
  ns : PySem.W.noSeq K (TC K) = true
structure TalEA (K : PySem.W.Frag) (C : Addr) : Prop where
  st : PySem.W.subIn K (.type "tuple") (.ref C) = some false
  si : PySem.W.subIn K (.type "int") (.ref C) = some false
  ts : PySem.W.subIn K (.ref C) (.type "tuple") = some false
  nf : PySem.W.notFirst K C (.ref C) = true
  sf : PySem.W.selfFirst K C = true
  ns : PySem.W.noSeq K C = true
theorem TalEA.to {K : PySem.W.Frag} {C : Addr} (h : TalEA K C) (e : TC K = C) : TalE K := by
  subst e
  exact ⟨h.st, h.si, h.ts, h.nf, h.sf, h.ns⟩
/-- a def that tells NotImplemented -/
def NiR (CX : CXT) (P : Program) (w : World) (outer : List PySem.Env) (H : Hp) (s : Shared) (Q : VK) (r : Result) (s' : Shared) : Prop := match r with
  | .ok (.ret u) => u = .notImplemented ∧ CE outer P w H s Q .none s'
  | .ok _ => False
  | .error e => CX outer H s (fun _ _ _ => False) e s'
theorem run_ni {CX : CXT} {P : Program} {w : World} {K : PySem.W.Frag} {mg : Str → Option Value} {base : Heap} {k : Nat} {f : Addr} {name qual : Str} {params : Arguments} {body : List Stmt} {scope : Scope} {dV kV doc pm cdv ct oc : Value} {an od : Option Addr}
    {osl : Array (Option Value)} {N ps : List Str} (lk : K.lookup f = some ⟨oc, od, .func (PySem.W.fnOf name qual params body scope dV kV doc pm an cdv ct), osl⟩) (hcd : PySem.W.codeIn K cdv qual = true) (S : FnScope N ps scope)
    {A : Around} {outer : List PySem.Env} {s : Shared} {H : Hp} {args : Args} {us : List Value} {vs : List V} {Q : VK} (hr : Room (k + 1) A) (e0 : Env0 P w K mg base A outer s H) (hb : BindsTo s (PySem.W.fnOf name qual params body scope dV kV doc pm an cdv ct) args (ps.zip us)) (r : Vals vs us) (hl : vs.length = ps.length)
    {test : Expr} {s2 : Stmt} {p1 p2 p3 : Pos} (hbd : body = [.If test [.Return (some (.Name "NotImplemented" p1)) p2] [] p3, s2]) (hg : scope.names.lookup ("NotImplemented" : Str) = some .globalImplicit) (hm : mg "NotImplemented" = none)
    (hbody : Room k (A.deeper (envOfC qual scope s.heap.objs.size f cdv)) → ∃ tt, PT (cxOf CX P w K mg base N qual scope f cdv A outer s H fun _ _ _ => False) test tt ∧ tt (L2.start N vs) H fun b H' => b = true ∧ Q .non H') :
    codeAny (model P w) A (.call (.ref f) args) (NiR CX P w outer H s Q) s := by
  have KX : K.In s.heap := e0.mod.kin.keeps fun b o e => (e0.bs b o e).1
  have lim : s.heap.NoLimit := e0.mod.nolimit.keeps fun b o e => (e0.bs b o e).1
  have hkind : ∀ y ∈ ps.zip us, scope.names.lookup y.1 = some .local ∨ (scope.names.lookup y.1 = some .cell ∧ ((cellsFrom (s.heap.objs.size + 1) scope.names []).lookup y.1).isSome = true) := fun ⟨n, v⟩ hy => by
    rcases S.par n (List.of_mem_zip hy).1 with q | q
    · exact .inl q
    · exact .inr ⟨q, PySem.W.cellsFrom_some _ _ _ (.inl q)⟩
  refine codeAny_call_function hr.depth (KX _ _ lk) rfl S.co S.gen rfl (PySem.W.codeRec_of KX hcd) (hb _ _ _ _ ?_)
  refine wpAny_newFunctionEnv_cells S.kind hkind fun env he s1 x => ?_
  subst he
  refine ⟨lim.keeps x.toInCall.keep, codeAny_func ?_⟩
  obtain ⟨tt, ht, hq⟩ := hbody (hr.deeper _)
  have I : Inv (cxOf CX P w K mg base N qual scope f cdv A outer s H fun _ _ _ => False) [] (L2.start N vs) H s1 := inv_start S hr.hd e0 hl r x
  subst hbd
  refine wpAny_execs_cons (wpAny_If (wpAny_mono (ht.run [] s1 (L2.start N vs) H _ I hq) (fun b s3 ⟨H3, I3, hbt, q3⟩ => ?_) fun e s' hs => hs))
  subst hbt
  simp only [if_true]
  refine wpAny_execs_cons (wpAny_Return_some (ld_blt I3 hg hm (u := .notImplemented) (by decide +kernel) ?_))
  exact ⟨rfl, .non, H3, I3.os, I3.bare, I3.base, I3.hok, rfl, q3⟩
/-- the own == tells nothing of what is no instance -/
structure NiEq (P : Program) (w : World) (K : PySem.W.Frag) (mg : Str → Option Value) (base : Heap) (k : Nat) : Prop where
  there : ∃ f, PySem.W.findIn K (.ref (TC K)) "__eq__" = some (some (.ref f)) ∧ PySem.W.isFn K (.ref f) = true ∧
    ∀ (A : Around) (outer : List PySem.Env) (s : Shared) (H F : Hp) (x y : V) (ux uy : Value) (d e : D), Room k A → Env0 P w K mg base A outer s H → K.In s.heap → FLe F H → NoTb F → Vw K F H x (.tal d) → Rp K F y e → isTal e = some false → RelV x ux → RelV y uy →
      codeAny (model P w) A (.call (.ref f) ⟨[ux, uy], []⟩) (NiR (L2N.CX P w) P w outer H s fun _ H' => FLe H H') s
theorem niEq_of {P : Program} {w : World} {K : PySem.W.Frag} {mg : Str → Option Value} {base : Heap} {st : Stmt} {N : List Str} {k : Nat} {test : Expr} {s2 : Stmt} {p1 p2 p3 : Pos} (ea : String → Addr) (F : FnMF K "__eq__" "Tally.__eq__" st ["self", "other"]) (S : FnScope N ["self", "other"] (defScope st))
    (hbd : defBody st = [.If test [.Return (some (.Name "NotImplemented" p1)) p2] [] p3, s2]) (hg : (defScope st).names.lookup ("NotImplemented" : Str) = some .globalImplicit) (hm : mg "NotImplemented" = none)
    (h : ∀ (f : Addr) (cdv : Value) (A : Around) (outer : List PySem.Env) (s : Shared) (H : Hp) (E : XK), Room k (A.deeper (envOfC "Tally.__eq__" (defScope st) s.heap.objs.size f cdv)) →
      DT ⟨K, ⟨ea, []⟩⟩ (cxOf (L2N.CX P w) P w K mg base N "Tally.__eq__" (defScope st) f cdv A outer s H E) (wE E) test (tNotS (sTru (sVal (sIsT (sLoc 1)))))) : NiEq P w K mg base (k + 1) := by
  obtain ⟨f, fd, F, h1, h2, _, hb⟩ := F.there
  refine ⟨f, h1, h2, fun A outer s H F0 x y ux uy d e hr e0 kin fh nt vx ry he rx rw' => ?_⟩
  obtain ⟨_, _, _, _, _, _, cd, _, _, efd, l, c⟩ := F.ex
  subst efd
  obtain ⟨F1, le1, fh1, nt1, rp1⟩ := vx.froT fh nt rfl
  have b := hb s [ux, uy] kin (by rfl)
  rw [List.append_nil] at b
  refine run_ni (vs := [x, y]) l c S hr e0 b (.cons rx (.cons rw' .nil)) rfl hbd hg hm fun hr' => ⟨_, h f cd A outer s H (fun _ _ _ => False) hr', ?_⟩
  have e1 : L2.start N [x, y] = [x, y].map some ++ List.replicate (N.length - 2) none := rfl
  rw [e1]
  refine ⟨_, F1, restOf F1 H none, {}, rel_start (m := N.length - 2) (ds := [.tal d, e]) (apart_none fh1 nt1) (.cons rp1 (.cons (ry.mono le1) .nil)), ?_⟩
  have ev : (tNotS (sTru (sVal (sIsT (sLoc 1))))) ([D.tal d, e].map Cell.fro ++ List.replicate (N.length - 2) Cell.no) = .ok true ([D.tal d, e].map Cell.fro ++ List.replicate (N.length - 2) Cell.no) := by
    simp [tNotS, sTru, sVal, sIsT, sLoc, Opd.get, Cell.data, ofO, he, D.truth]
  rw [ev]
  exact fun H' F' le rel => ⟨rfl, fun a o z => apart_all fh1 le ⟨rel.fH, rel.rH, rel.dj, rel.nt⟩ z⟩
section
variable {ex : Exx} {X : Cx} {W : WX} {a b : Expr} {pos : Pos} {sa sb : SO} {k : Nat} {g : List D → FR} {sp : Sp}
def rEqT (K : PySem.W.Frag) (sp : Sp) : R2 := fun x y H Q => (∃ a dx fs b dy gs, x = .ref a ∧ y = .ref b ∧ H a = some (.ins (TC K) dx fs) ∧ H b = some (.ins (TC K) dy gs) ∧ sp [x, y] H Q fun _ _ _ => False) ∨
  ∃ a dx fs F d e, x = .ref a ∧ H a = some (.ins (TC K) dx fs) ∧ FLe F H ∧ NoTb F ∧ Vw K F H x (.tal d) ∧ Rp K F y e ∧ isTal e = some false ∧ ((∃ i, y = .int i) ∨ ∃ l xs, y = .ref l ∧ SqT K H l xs) ∧ ∀ H', FLe H H' → Q (.bl false) H'
theorem op_eqT (T : TalE X.K) (C : CalMF X.prog X.w X.K X.mg X.base "__eq__" k sp) (Ni : NiEq X.prog X.w X.K X.mg X.base k) (hr : Room k X.A) : OpR X (compareOp .Eq) (rEqT X.K sp) := by
  intro pins s σ H x y v u Q I rx ry h
  show wpAny _ _ (richCompare .Eq v u) _ _ _
  rcases h with ⟨a, dx, fs, b, dy, gs, rfl, rfl, ha, hb, q⟩ | ⟨a, dx, fs, F, d, e, rfl, ha, fh, nt, vx, rp, he, ht, q⟩
  · cases (show v = Value.ref a from rx)
    cases (show u = Value.ref b from ry)
    obtain ⟨f, fd, ps, F, h1, h2, _, hbd⟩ := C.there
    obtain ⟨mA, O, _⟩ := ins_get I.hok ha
    obtain ⟨od, J, _⟩ := O.look
    obtain ⟨mB, O', _⟩ := ins_get I.hok hb
    obtain ⟨od', J', _⟩ := O'.look
    obtain ⟨m, hF⟩ := I.fr
    refine PySem.W.cmp_K (op := .Eq) hr.units0 hF I.ok.mod.kin J J'.type T.nf h1 h2 (wpAny_mono (run_atA (us := [.ref a, .ref b]) (vs := [.ref a, .ref b]) F hr I.env0 hbd I (fun er s' c => passes0 pins σ H s er s' c) (.cons rfl (.cons rfl .nil)) q) (fun v' s' z => ?_) fun _ _ x => x)
    obtain ⟨z', H', I', rz, qz⟩ := z
    exact SlX.cmpback rz ⟨z', H', I', rz, qz⟩
  · cases (show v = Value.ref a from rx)
    obtain ⟨f, h1, h2, run⟩ := Ni.there
    obtain ⟨mA, O, _⟩ := ins_get I.hok ha
    obtain ⟨od, J, _⟩ := O.look
    obtain ⟨m, hF⟩ := I.fr
    have go : wpAny (model X.prog X.w) X.A (call (.ref f) [.ref a, u]) (fun v' s1 => v' = .notImplemented ∧ ∃ H1, Inv X pins σ H1 s1 ∧ FLe H H1) X.xe s := by
      refine wpAny_call (codeAny_mono (run X.A X.stack s H F (.ref a) y (.ref a) u d e hr I.env0 I.kIn fh nt vx rp he rfl ry) fun r s1 hq => ?_)
      cases r with
      | error er => exact passes0 pins σ H s er s1 hq
      | ok fl =>
        cases fl with
        | ret u1 =>
          obtain ⟨e1, ce⟩ := hq
          obtain ⟨_, H1, I1, _, le⟩ := I.after ce
          exact ⟨e1, H1, I1, le⟩
        | next => exact False.elim hq
        | brk => exact False.elim hq
        | cont => exact False.elim hq
    rcases ht with ⟨i, rfl⟩ | ⟨l, xs, rfl, hx⟩
    · obtain ⟨t, rfl⟩ := (show ∃ t, u = Value.int i t from ry)
      refine ni_cmp (T := "int") (idb := "int.__eq__") hr.units0 hF I.ok.mod.kin J (typeIs_int _ _ _) T.si h1 h2 PySem.F.slot_int_eq (wpAny_mono go (fun v' s1 ⟨e1, H1, I1, le⟩ => ?_) fun _ _ x => x)
      obtain ⟨mA1, O1, _⟩ := ins_get I1.hok (le a _ ha)
      obtain ⟨od1, J1, _⟩ := O1.look
      refine ⟨e1, typeIs_int _ _ _, int_eq_inst J1.at_ rfl ⟨rfl, same_int ⟨rfl, .bl false, H1, I1, rfl, q H1 le⟩⟩⟩
    · cases (show u = Value.ref l from ry)
      have tyT : ∀ {s1 H1}, Inv X pins σ H1 s1 → FLe H H1 → ∃ dd its n sl, s1.heap.get? l = some { cls := .type "tuple", dict := dd, data := .seq its n, slots := sl } := fun {s1 H1} I1 le => by
        obtain ⟨its, r, ⟨o, eo, ec, n, ed⟩, _⟩ := I1.tuple (le.sqT hx)
        obtain ⟨c, dd, dt, sl⟩ := o
        cases ec
        cases ed
        exact ⟨dd, _, n, sl, eo⟩
      obtain ⟨dd0, its0, n0, sl0, el0⟩ := tyT I (FLe.refl H)
      refine ni_cmp (T := "tuple") (idb := "tuple.__eq__") hr.units0 hF I.ok.mod.kin J ⟨_, el0, rfl⟩ T.st h1 h2 PySem.F.slot_tuple_eq (wpAny_mono go (fun v' s1 ⟨e1, H1, I1, le⟩ => ?_) fun _ _ x => x)
      obtain ⟨mA1, O1, _⟩ := ins_get I1.hok (le a _ ha)
      obtain ⟨od1, J1, _⟩ := O1.look
      obtain ⟨dd, its, n, sl, el⟩ := tyT I1 le
      refine ⟨e1, ⟨_, el, rfl⟩, tup_eq_inst I1.kIn J1 T.ts el ⟨rfl, same_tup J1.at_ el (fun n z => by rw [J1.cls] at z; cases z) (fun z => ?_) ⟨rfl, .bl false, H1, I1, rfl, q H1 le⟩⟩⟩
      subst z
      have z := el.symm.trans J1.at_
      have z2 := J1.cls
      rw [← Option.some.inj z] at z2
      cases z2
def gEqT (g : List D → FR) (ds : List D) : Option D := match ds with
  | [.tal a, .tal b] => match g [.tal a, .tal b] with
    | .ok (.bl k) _ => some (.bl k)
    | _ => none
  | [.tal _, .tup _] => some (.bl false)
  | [.tal _, .int _] => some (.bl false)
  | _ => none
theorem psemT_eq {G : Gx} : PSemT G (r2L (rEqT G.K (spP G 2 g))) (gEqT g) := fun F H vs ds d Q fh nt vw e q => by
  unfold gEqT at e
  split at e
  · rename_i a b
    split at e
    · rename_i k o e1
      cases e
      have z := sp_scal (n := 2) (E := fun _ _ _ => False) fh nt vw rfl rfl e1 rfl q
      obtain ⟨v, u, rfl, h1, h2⟩ := vw.two
      obtain ⟨p, dx, x, rfl, hp, _⟩ := h1.tal fh
      obtain ⟨p2, dx2, x2, rfl, hp2, _⟩ := h2.tal fh
      exact ⟨_, _, rfl, .inl ⟨p, dx, _, p2, dx2, _, rfl, rfl, hp, hp2, z⟩⟩
    · cases e
  · cases e
    obtain ⟨v, u, rfl, h1, h2⟩ := vw.two
    obtain ⟨p, dx, x, rfl, hp, _⟩ := h1.tal fh
    obtain ⟨l, xs, rfl, hx, r⟩ := h2.sqT fh
    rcases h2 with h2 | ⟨_, _, _, _, h2⟩
    · exact ⟨_, _, rfl, .inr ⟨p, dx, _, F, _, _, rfl, hp, fh, nt, h1, h2, rfl, .inr ⟨l, xs, rfl, hx⟩, fun H' le => q _ H' le fun F' => .bl _⟩⟩
    · exact h2.elim
  · cases e
    obtain ⟨v, u, rfl, h1, h2⟩ := vw.two
    obtain ⟨p, dx, x, rfl, hp, _⟩ := h1.tal fh
    rcases h2 with h2 | ⟨_, _, _, _, h2⟩
    · cases h2
      exact ⟨_, _, rfl, .inr ⟨p, dx, _, F, _, _, rfl, hp, fh, nt, h1, .int _, rfl, .inl ⟨_, rfl⟩, fun H' le => q _ H' le fun F' => .bl _⟩⟩
    · exact h2.elim
  · cases e
theorem d_eqT (T : TalE X.K) (C : CalMF X.prog X.w X.K X.mg X.base "__eq__" k (spP (GK X ex) 2 g)) (Ni : NiEq X.prog X.w X.K X.mg X.base k) (hr : Room k X.A) (ha : DO (GK X ex) X W a sa) (hb : DO (GK X ex) X W b sb) (hm : behindInMarks .Eq b = false) :
    DE (GK X ex) X W (.Compare a [.Eq] [b] pos) (sOps (gEqT g) (b2 sa sb)) := wkE (pe_cmpR (op_eqT T C Ni hr) ha hb hm) fun σ H Q h => two_opsT psemT_eq h
theorem d_teqT (T : TalE X.K) (C : CalMF X.prog X.w X.K X.mg X.base "__eq__" k (spP (GK X ex) 2 g)) (Ni : NiEq X.prog X.w X.K X.mg X.base k) (hr : Room k X.A) (ha : DO (GK X ex) X W a sa) (hb : DO (GK X ex) X W b sb) (hm : behindInMarks .Eq b = false) :
    DT (GK X ex) X W (.Compare a [.Eq] [b] pos) (sTst (sOps (gEqT g) (b2 sa sb))) := wkT (pt_cmpR (op_eqT T C Ni hr) ha hb hm) fun σ H Q h => two_opsT psemT_eq (tst_core h)
end
section
variable {P : Program} {w : World} {K : PySem.W.Frag} {mg : Str → Option Value} {base : Heap}
/-- special methods by their bodies -/
theorem calMF_P {m q : Str} {st : Stmt} {N ps : List Str} {k : Nat} {body : SS} (ea : String → Addr) (F : FnMF K m q st ps) (S : FnScope N ps (defScope st))
    (h : ∀ (f : Addr) (cdv : Value) (A : Around) (outer : List PySem.Env) (s : Shared) (H : Hp) (E : XK), Room k (A.deeper (envOfC q (defScope st) s.heap.objs.size f cdv)) →
      DSs ⟨K, ⟨ea, []⟩⟩ (cxOf (L2N.CX P w) P w K mg base N q (defScope st) f cdv A outer s H E) (wE E) (defBody st) body) : CalMF P w K mg base m (k + 1) (spP ⟨K, ⟨ea, []⟩⟩ ps.length (runP N.length ps.length body)) := by
  obtain ⟨f, fd, F, h1, h2, h3, hb⟩ := F.there
  exact ⟨f, fd, ps, d_defP ea F S (h f), h1, h2, h3, hb⟩
theorem calMF_I {m q : Str} {st : Stmt} {N ps : List Str} {k : Nat} {body : SS} (ea : String → Addr) (F : FnMF K m q st ps) (S : FnScope N ps (defScope st)) (h0 : 0 < ps.length)
    (h : ∀ (f : Addr) (cdv : Value) (A : Around) (outer : List PySem.Env) (s : Shared) (H : Hp) (E : XK), Room k (A.deeper (envOfC q (defScope st) s.heap.objs.size f cdv)) →
      DSs ⟨K, ⟨ea, []⟩⟩ (cxOf (L2N.CX P w) P w K mg base N q (defScope st) f cdv A outer s H E) (wE E) (defBody st) body) : CalMF P w K mg base m (k + 1) (spI ⟨K, ⟨ea, []⟩⟩ ps.length (runI N.length ps.length body)) := by
  obtain ⟨f, fd, F, h1, h2, h3, hb⟩ := F.there
  exact ⟨f, fd, ps, d_defI ea F S h0 (h f), h1, h2, h3, hb⟩
end
end Dt
set_option Elab.async false
set_option linter.all false
set_option maxRecDepth 100000
set_option maxHeartbeats 4000000
namespace Dt
open PySem PySem.Spec PyProof.Rows L2
variable [HW]
def spIS (G : Gx) (n : Nat) (g : List D → FR) : Sp := fun vs H Q E => ∃ p ws d0 ds F Rv, vs = .ref p :: ws ∧ vs.length = n ∧ Apart F Rv H ∧ OwnAt G.K F Rv H p d0 ∧ Rps G.K F ws ds ∧ match g (d0 :: ds) with
  | .ok _ [z] => ∀ H' F', FLe F F' → Apart F' Rv H' → OwnAt G.K F' Rv H' p z → Q (.ref p) H'
  | .exc x => ∀ cls dd H' F', FLe F F' → Apart F' Rv H' → OwnAt G.K F' Rv H' p d0 → XR G F' x cls dd H' → E cls dd H'
  | _ => False
open Classical in
noncomputable def runS (m n : Nat) (body : SS) : List D → FR := fun ds => match ds with
  | [] => .stuck
  | d0 :: ds => match body (Cell.io d0 :: ds.map Cell.fro ++ List.replicate (m - n) Cell.no) with
    | .ok .nx ρ => .ok .non (lastIo ρ)
    | .exc x ρ => if lastIo ρ = [d0] then .exc x else .stuck
    | _ => .stuck
section
variable {P : Program} {w : World} {K : PySem.W.Frag} {mg : Str → Option Value} {base : Heap}
open Classical in
theorem d_defIS {x qual x0 : Str} {st s1 : Stmt} {p1 p2 : Pos} {f : Addr} {fd : FuncData} {N ps : List Str} {k : Nat} {body : SS} (ea : String → Addr) (F : Fun K x qual st f fd) (S : FnScope N ps (defScope st)) (h0 : 0 < ps.length)
    (hbd : defBody st = [s1, .Return (some (.Name x0 p1)) p2]) (hN : N[0]? = some x0) (hv : x0 ∈ ps) (hdb : (x0 == ("__debug__" : Str)) = false) (hcd : (x0 == ("__classdict__" : Str)) = false)
    (h : ∀ (cdv : Value) (A : Around) (outer : List PySem.Env) (s : Shared) (H : Hp) (E : XK), Room k (A.deeper (envOfC qual (defScope st) s.heap.objs.size f cdv)) →
      DS ⟨K, ⟨ea, []⟩⟩ (cxOf (L2N.CX P w) P w K mg base N qual (defScope st) f cdv A outer s H E) (wE E) s1 body) : FnOk P w K mg base (L2N.CX P w) (k + 1) f fd ps (spIS ⟨K, ⟨ea, []⟩⟩ ps.length (runS N.length ps.length body)) := by
  refine okN F S (fun vs H Q E ⟨_, _, _, _, _, _, _, hl, _⟩ => hl) fun cdv A outer s H vs Q E hr ⟨p, ws, d0, ds, F0, Rv, hvs, hl, ap, ow, r, q⟩ => ?_
  have vis : Vis (cxOf (L2N.CX P w) P w K mg base N qual (defScope st) f cdv A outer s H E).env.scope x0 := (S.par x0 hv).elim (fun z => .inl z) fun z => .inr (.inl z)
  rw [hbd]
  refine ⟨_, pss_cons (h cdv A outer s H E hr) (pss_one (ps_ret (pe_var (i := 0) hN vis hdb hcd))), ?_⟩
  have e0 : L2.start N vs = some (.ref p) :: (ws.map some ++ List.replicate (N.length - ps.length) none) := by unfold L2.start; rw [hl, hvs]; rfl
  rw [e0]
  refine ⟨_, F0, Rv, { l := [(0, p)] }, rel_startI ap ow r, ?_⟩
  unfold runS at q
  have fin : ∀ {ρ' : Env} {σ' : L2.St} {H' F' : Hp} {z : D}, Rel K ({ l := [(0, p)] } : Io []) Rv ρ' F' σ' H' → lastIo ρ' = [z] → OwnAt K F' Rv H' p z := fun {ρ' σ' H' F' z} rel e => by
    obtain ⟨⟨d, e1⟩, e2⟩ := rel.ios (0, p) (List.mem_singleton.mpr rfl)
    unfold lastIo at e
    rw [e1] at e
    cases e
    obtain ⟨p', e3, w⟩ := rel.heldAt e1 rfl
    rw [e2] at e3
    cases e3
    exact w
  have fin2 : ∀ {ρ' : Env} {σ' : L2.St} {H' F' : Hp}, Rel K ({ l := [(0, p)] } : Io []) Rv ρ' F' σ' H' → (∃ z, lastIo ρ' = [z]) ∧ σ'[0]? = some (some (.ref p)) := fun {ρ' σ' H' F'} rel => by
    obtain ⟨⟨d, e1⟩, e2⟩ := rel.ios (0, p) (List.mem_singleton.mpr rfl)
    exact ⟨⟨d, by unfold lastIo; rw [e1]⟩, e2⟩
  have q : (match (match body (Cell.io d0 :: (ds.map Cell.fro ++ List.replicate (N.length - ps.length) Cell.no)) with
    | .ok .nx ρ => FR.ok .non (lastIo ρ)
    | .exc x ρ => if lastIo ρ = [d0] then .exc x else .stuck
    | _ => .stuck) with
    | .ok d [z] => ∀ H' F', FLe F0 F' → Apart F' Rv H' → OwnAt K F' Rv H' p z → Q (.ref p) H'
    | .exc x => ∀ cls dd H' F', FLe F0 F' → Apart F' Rv H' → OwnAt K F' Rv H' p d0 → XR ⟨K, ⟨ea, []⟩⟩ F' x cls dd H' → E cls dd H'
    | _ => False) := q
  cases e : body (Cell.io d0 :: (ds.map Cell.fro ++ List.replicate (N.length - ps.length) Cell.no)) with
  | stuck => rw [e] at q; exact q.elim
  | exc x ρ' =>
    rw [e] at q
    by_cases hl0 : lastIo ρ' = [d0]
    · simp only [if_pos hl0] at q
      intro cls dd σ' H' F' le rel xr
      exact q cls dd H' F' le ⟨rel.fH, rel.rH, rel.dj, rel.nt⟩ (fin rel hl0) xr
    · simp only [if_neg hl0] at q
  | ok fl ρ' =>
    rw [e] at q
    cases fl with
    | nx =>
      intro σ' H' F' le rel
      obtain ⟨⟨z, hz⟩, s0⟩ := fin2 rel
      simp only [hz] at q
      exact ⟨.ref p, s0, q H' F' le ⟨rel.fH, rel.rH, rel.dj, rel.nt⟩ (fin rel hz)⟩
    | bk => exact q.elim
    | ct => exact q.elim
    | rt d => exact q.elim
theorem calMF_S {m q x0 : Str} {st s1 : Stmt} {p1 p2 : Pos} {N ps : List Str} {k : Nat} {body : SS} (ea : String → Addr) (F : FnMF K m q st ps) (S : FnScope N ps (defScope st)) (h0 : 0 < ps.length)
    (hbd : defBody st = [s1, .Return (some (.Name x0 p1)) p2]) (hN : N[0]? = some x0) (hv : x0 ∈ ps) (hdb : (x0 == ("__debug__" : Str)) = false) (hcd : (x0 == ("__classdict__" : Str)) = false)
    (h : ∀ (f : Addr) (cdv : Value) (A : Around) (outer : List PySem.Env) (s : Shared) (H : Hp) (E : XK), Room k (A.deeper (envOfC q (defScope st) s.heap.objs.size f cdv)) →
      DS ⟨K, ⟨ea, []⟩⟩ (cxOf (L2N.CX P w) P w K mg base N q (defScope st) f cdv A outer s H E) (wE E) s1 body) : CalMF P w K mg base m (k + 1) (spIS ⟨K, ⟨ea, []⟩⟩ ps.length (runS N.length ps.length body)) := by
  obtain ⟨f, fd, F, h1, h2, h3, hb⟩ := F.there
  exact ⟨f, fd, ps, d_defIS ea F S h0 hbd hN hv hdb hcd (h f), h1, h2, h3, hb⟩
end
section
variable {ex : Exx} {X : Cx} {W : WX} {e o : Expr} {pos apos : Pos} {se : SE} {k : Nat} {g : List D → FR} {x : Str}
theorem set_same {σ : L2.St} {i : Nat} {x : Option V} (h : σ[i]? = some x) : σ.set i x = σ := List.ext_getElem? fun j => by
  by_cases hj : i = j
  · subst hj; rw [List.getElem?_set_self (List.getElem?_eq_some_iff.mp h).1, h]
  · rw [List.getElem?_set_ne hj]
end
end Dt
set_option Elab.async false
set_option linter.all false
set_option maxRecDepth 100000
set_option maxHeartbeats 4000000
namespace Dt
open PySem PySem.Spec PyProof.Rows L2
end Dt
set_option Elab.async false
set_option linter.all false
set_option maxRecDepth 100000
set_option maxHeartbeats 4000000
namespace Dt
open PySem PySem.Spec PyProof.Rows L2
end Dt
set_option Elab.async false
set_option linter.all false
set_option maxRecDepth 100000
set_option maxHeartbeats 4000000
namespace Dt
open PySem PySem.Spec PyProof.Rows L2
variable [HW]
section
variable {ex : Exx} {X : Cx} {W : WX} {e o : Expr} {ea : SE}
/-- the variable at i is a dict of its own; what is put in is a list of pairs -/
def sDUpdL (i : Nat) (s : SE) : SE := fun ρ => match dctOf (held ρ i) with
  | none => .stuck
  | some _ => (s ρ).bind fun d ρ' => match dctOf (held ρ' i), d with
    | some a, .lst ds => match dictGo ds a with
      | some r => if a.1.length + ds.length ≤ sizeLine then .ok .non (put ρ' i (.dct r.1 r.2)) else .stuck
      | none => .stuck
    | _, _ => .stuck
@[simp] theorem ev_dupdL (i : Nat) (s : SE) (ρ : Env) : sDUpdL i s ρ = match dctOf (held ρ i) with
  | none => .stuck
  | some _ => (s ρ).bind fun d ρ' => match dctOf (held ρ' i), d with
    | some a, .lst ds => match dictGo ds a with
      | some r => if a.1.length + ds.length ≤ sizeLine then .ok .non (put ρ' i (.dct r.1 r.2)) else .stuck
      | none => .stuck
    | _, _ => .stuck := rfl
end
end Dt
set_option Elab.async false
set_option linter.all false
set_option maxRecDepth 100000
set_option maxHeartbeats 4000000
namespace Dt
open PySem PySem.Spec PyProof.Rows L2
variable [HW]
section
variable {ex : Exx} {X : Cx} {W : WX} {a b e o : Expr} {es : List Expr} {p pos apos : Pos} {sa sb so : SO} {k n : Nat} {g : List D → FR} {x : Str} {sp : Sp}
def isToU (d : D) : Option D := match d with
  | .tal _ => some (.bl false)
  | d => isTo ["tuple"] d
def sIsiU (s : SO) : SE := fun ρ => (s ρ).bind fun o ρ' => ofO ((o.get ρ').bind isToU) ρ'
theorem d_isiU {t : Str} {q : Pos} (TT : PySem.W.kitOne X.K (.ref (TC X.K)) (.type "tuple") = some false) (J : TalI X.K) (TT2 : TalC X.K) (hg : Gl X "isinstance") (hm : X.mg "isinstance" = none) (ht : Kinds "tuple") (gt : Gl X t) (mt : X.mg t = none) (ha : DO (GK X ex) X W a sa) (hv : bootBuiltins t = some (.type "tuple") := by decide +kernel) (hn : t ≠ "__name__" := by decide) (hdb : (t == ("__debug__" : Str)) = false := by decide)
    (he : starEach (a :: (.Name t q) :: []) X.env = (false, eval a X.env) :: starEach ((.Name t q) :: []) X.env := by rfl) (hpl : (backTo pos (starEach ((.Name t q) :: []) X.env)).any (·.1) = false := by rfl) (hs2 : starEach ((.Name t q) :: []) X.env = (false, eval (.Name t q) X.env) :: starEach [] X.env := by rfl) :
    DE (GK X ex) X W (.Call (.Name "isinstance" p) (a :: (.Name t q) :: []) [] pos) (sIsiU sa) :=
  wkE (isi_gl hg hm call_isi (pa_cons ha (pa_cons (pe_bltn (v := .ty "tuple") gt mt hv rfl hn hdb) pa_nil hs2) he) he hpl) fun σ H Q ⟨ρ, F, Rv, io, rel, q⟩ => by
    refine ⟨ρ, F, Rv, io, rel, ?_⟩
    unfold sIsiU at q
    cases e1 : sa ρ with
    | stuck => rw [e1] at q; exact q.elim
    | exc x ρ' => rw [e1] at q; exact q
    | ok o ρ' =>
      rw [e1, R.bind_ok] at q
      intro v H' F' le rel' ok
      cases e2 : o.get ρ' with
      | none => rw [e2] at q; exact q.elim
      | some d =>
        rw [e2, Option.bind_some] at q
        have vw := rel'.view (G := GK X ex) ok e2
        have go : ∀ d, Vw X.K F' H' v d → (match ofO (isTo ["tuple"] d) ρ' with | .ok d ρ' => EPost (GK X ex) io Rv F σ ρ' d Q | .exc x ρ' => XPost (GK X ex) W io Rv F ρ' x | .stuck => False) → ∃ (x c : V) (t u : Value) (b : Bool), [v, .ty "tuple"] = [x, c] ∧ ClsV c u ∧ TyX X.K H' x t ∧ PySem.W.kitOne X.K t u = some b ∧ Q (.bl b) H' := fun d vw q => by
          unfold isTo at q
          cases hd : d.isFn with
          | true => rw [if_pos hd] at q; exact q.elim
          | false =>
            rw [if_neg (by rw [hd]; decide)] at q
            refine ⟨v, .ty "tuple", .type (tyN d), .type "tuple", isT d "tuple", rfl, .ty _, ty_vw rel'.fH vw hd, kit_isT d ht, ?_⟩
            have z := q (.bl (["tuple"].any (isT d))) H' F' le rel' (.bl _)
            simpa using z
        cases d with
        | tal d =>
          obtain ⟨a, dx, x, rfl, ha, rx⟩ := vw.tal rel'.fH
          exact ⟨.ref a, .ty "tuple", .ref (TC X.K), .type "tuple", false, rfl, .ty _, .base (.ins ha TT2.cl J.ca J.cn J.ct J.cm), TT, q _ H' F' le rel' (.bl _)⟩
        | _ => exact go _ vw q
def rNotT (K : PySem.W.Frag) (sp : Sp) : V → Hp → VK → Prop := fun x H Q => ∃ a dx fs, x = .ref a ∧ H a = some (.ins (TC K) dx fs) ∧ sp [x] H (fun v H' => ∃ b, v = .bl b ∧ Q (.bl (!b)) H') fun _ _ _ => False
theorem un_notT (C : CalMF X.prog X.w X.K X.mg X.base "__bool__" k sp) (hr : Room k X.A) : UnR X (unaryOp .Not) (rNotT X.K sp) := by
  intro pins s σ H x v Q I rx h
  obtain ⟨a, dx, fs, rfl, ha, q⟩ := h
  cases (show v = Value.ref a from rx)
  obtain ⟨f, fd, ps, F, h1, h2, _, hbd⟩ := C.there
  obtain ⟨mA, O, _⟩ := ins_get I.hok ha
  obtain ⟨od, J, _⟩ := O.look
  obtain ⟨m, hF⟩ := I.fr
  refine not_of (PySem.W.truthy_K hF I.ok.mod.kin J h1 h2 (wpAny_mono (run_atA (us := [.ref a]) (vs := [.ref a]) F hr I.env0 hbd I (fun er s' c => passes0 pins σ H s er s' c) (.cons rfl .nil) q) (fun v' s' z => ?_) fun _ _ x => x))
  obtain ⟨z', H', I', rz, b, eb, qz⟩ := z
  subst eb
  cases (show v' = Value.bool b from rz)
  exact ⟨.bl (!b), H', I', rfl, qz⟩
def gNotT (g : List D → FR) (ds : List D) : Option D := match ds with
  | [.tal d] => match g [.tal d] with
    | .ok (.bl b) _ => some (.bl (!b))
    | _ => none
  | _ => none
theorem psemT_not {G : Gx} : PSemT G (r1L (rNotT G.K (spP G 1 g))) (gNotT g) := fun F H vs ds d Q fh nt vw e q => by
  unfold gNotT at e
  split at e
  · rename_i a
    split at e
    · rename_i b o e1
      cases e
      have z : spP G 1 g vs H (fun v H' => ∃ b, v = .bl b ∧ Q (.bl (!b)) H') fun _ _ _ => False := sp_scal (E := fun _ _ _ => False) fh nt vw rfl rfl e1 rfl fun v H' le rp => by
        have rp0 := rp F
        cases rp0
        exact ⟨b, rfl, q _ H' le fun F' => .bl _⟩
      obtain ⟨v, rfl, h1⟩ := vw.one
      obtain ⟨p, dx, x, rfl, hp, _⟩ := h1.tal fh
      exact ⟨_, rfl, p, dx, _, rfl, hp, z⟩
    · cases e
  · cases e
theorem d_notT (C : CalMF X.prog X.w X.K X.mg X.base "__bool__" k (spP (GK X ex) 1 g)) (hr : Room k X.A) (ha : DO (GK X ex) X W a sa) : DE (GK X ex) X W (.UnaryOp .Not a pos) (sOps (gNotT g) (b1 sa)) :=
  wkE (pe_un (un_notT C hr) ha) fun σ H Q h => one_opsT psemT_not h
end
section
variable {T : List (Addr × Str)} {K : PySem.W.Frag} {io : Io T} {R F F' : Hp} {ρ ρ2 : Env} {σ σ2 : L2.St} {H H' : Hp}
/-- a new tally is frozen -/
theorem Rel.freezeL (r : Rel K io R ρ F σ H) {p : Addr} {d : D} (w : OwnAt K F R H p (.tal d)) (lo : Loose ρ σ p) :
    ∃ dx v, H p = some (.ins (TC K) dx [("row", v)]) ∧ OwnObj K F p (.ins (TC K) dx [("row", v)]) (.tal d) ∧ FLe F (L2.upd F p (.ins (TC K) dx [("row", v)])) ∧ Rp K (L2.upd F p (.ins (TC K) dx [("row", v)])) (.ref p) (.tal d) ∧ Rel K io R ρ (L2.upd F p (.ins (TC K) dx [("row", v)])) σ H := by
  obtain ⟨o, ho, oo⟩ := w.at_
  have oo' := oo
  obtain ⟨l, dx, v, rfl, rv⟩ := oo
  have le : FLe F (L2.upd F p (.ins (TC K) dx [("row", v)])) := FLe.upd _ w.nF
  refine ⟨dx, v, ho, oo', le, .tal upd_same (rv.mono le), fun a u e => ?_, r.rH, fun a u e => ?_, r.len, fun j cj vj e1 e2 => ?_, r.inj, r.ios, r.ioc, fun t ht => let q := r.tab t ht; let ⟨ps, ep⟩ := q.tbl; q.mv (by rw [upd_ne (own_ne w ep)]; exact q.1) q.2.1 (fun ps e => e) le q.nR, r.nt.upd l⟩
  · by_cases h : a = p
    · subst h; rw [upd_same] at e; cases e; exact ho
    · rw [upd_ne h] at e; exact r.fH a u e
  · by_cases h : a = p
    · subst h; exact w.nR
    · rw [upd_ne h] at e; exact r.dj a u e
  · have q := r.cell j cj vj e1 e2
    have keep : ∀ {dj p'}, cj.held = some dj → vj = some (.ref p') → OwnAt K F R H p' dj → OwnAt K (L2.upd F p (.ins (TC K) dx [("row", v)])) R H p' dj := fun {dj p'} h3 h4 q => by
      obtain ⟨o', e, q3⟩ := q.at_
      have ne : p' ≠ p := by
        intro z
        subst z
        subst h4
        exact lo j cj dj e1 h3 e2
      exact ⟨by rw [upd_ne ne]; exact q.nF, q.nR, o', e, q3.mono le⟩
    cases cj with
    | no => trivial
    | fro d => obtain ⟨x, e, q⟩ := q; exact ⟨x, e, q.mono le⟩
    | own dj => obtain ⟨p', e, q⟩ := q; exact ⟨p', e, keep rfl e q⟩
    | io dj => obtain ⟨p', e, q⟩ := q; exact ⟨p', e, keep rfl e q⟩
/-- .. and taken back: what the cells knew before it came stays, that at j apart -/
theorem Rel.thawL (rel : Rel K io R ρ F σ H) {j : Nat} {L d : D} {p : Addr} {x : V} {C dx : Addr} {fs : List (Str × V)} (nF : F p = none) (nR : R p = none) (ow : OwnObj K F p (.ins C dx fs) (.tal d)) (le : FLe (L2.upd F p (.ins C dx fs)) F')
    (rel2 : Rel K io R (ρ.set j (.fro L)) F' (σ.set j (some x)) H') (hfree : (ρ.set j .no).all cellFreeT = true) :
    FLe F (eraseH F' p) ∧ OwnAt K (eraseH F' p) R H' p (.tal d) ∧ Loose (ρ.set j .no) (σ.set j (some x)) p ∧ Rel K io R (ρ.set j .no) (eraseH F' p) (σ.set j (some x)) H' := by
  have hpF : F' p = some (.ins C dx fs) := le _ _ upd_same
  have hpH : H' p = some (.ins C dx fs) := rel2.fH _ _ hpF
  have leF : FLe F (eraseH F' p) := fun a u ea => by
    have ne : a ≠ p := fun z => by subst z; rw [nF] at ea; cases ea
    rw [erase_ne ne]
    exact le _ _ (by show upd F p _ a = _; rw [upd_ne ne]; exact ea)
  have old : ∀ {i : Nat} {c : Cell}, (ρ.set j .no)[i]? = some c → c = .no ∨ (j ≠ i ∧ ρ[i]? = some c ∧ (ρ.set j (.fro L))[i]? = some c) := fun {i c} e => by
    by_cases z : j = i
    · subst z
      by_cases hl : j < ρ.length
      · rw [List.getElem?_set_self hl] at e; cases e; exact .inl rfl
      · rw [List.getElem?_eq_none (by rw [List.length_set]; omega)] at e; cases e
    · rw [List.getElem?_set_ne z] at e
      exact .inr ⟨z, e, by rw [List.getElem?_set_ne z]; exact e⟩
  have heldo : ∀ {i : Nat} {c : Cell} {d : D}, (ρ.set j .no)[i]? = some c → c.held = some d → (ρ.set j (.fro L))[i]? = some c := fun {i c d} e h => by
    rcases old e with rfl | ⟨_, _, e2⟩
    · cases h
    · exact e2
  refine ⟨leF, ⟨erase_same, nR, _, hpH, ow.mono leF⟩, fun i c d' e h z => ?_, fun a u ea => ?_, fun a u ea => rel2.rH _ _ ea, fun a u ea => ?_, by have z := rel2.len; rw [List.length_set] at z ⊢; exact z, fun i ci vi f1 f2 => ?_, fun i k ci ck di dk q e1 e2 h1 h2 => rel2.inj i k ci ck di dk q (heldo e1 h1) (heldo e2 h2) h1 h2, fun ip hip => ?_, fun i d' e => ?_, fun t ht => ?_, fun a ps z => ?_⟩
  · obtain ⟨p', e3, w⟩ := rel2.heldAt (heldo e h) h
    rw [z] at e3
    cases e3
    rw [w.nF] at hpF; cases hpF
  · by_cases z : a = p
    · subst z; rw [erase_same] at ea; cases ea
    · rw [erase_ne z] at ea; exact rel2.fH _ _ ea
  · by_cases z : a = p
    · subst z; exact nR
    · rw [erase_ne z] at ea; exact rel2.dj _ _ ea
  · have fr : cellFreeT ci = true := List.all_eq_true.mp hfree ci (List.mem_of_getElem? f1)
    rcases old f1 with rfl | ⟨hj, g1, g2⟩
    · trivial
    · have f2' : σ[i]? = some vi := by rw [List.getElem?_set_ne hj] at f2; exact f2
      have c0 := rel.cell i ci vi g1 f2'
      have c2 := rel2.cell i ci vi g2 f2
      have keep : ∀ {d' : D} {p' : Addr}, heldFreeT d' = true → OwnAt K F' R H' p' d' → OwnAt K (eraseH F' p) R H' p' d' := fun {d' p'} hd q => by
        have ne : p' ≠ p := fun z => by subst z; rw [q.nF] at hpF; cases hpF
        obtain ⟨o', g1, g2⟩ := q.at_
        exact ⟨by rw [erase_ne ne]; exact q.nF, q.nR, o', g1, g2.eraseT hpF hd⟩
      cases ci with
      | no => trivial
      | fro d' => obtain ⟨y, rfl, ry⟩ := c0; exact ⟨y, rfl, ry.mono leF⟩
      | own d' => obtain ⟨p', rfl, oy⟩ := c2; exact ⟨p', rfl, keep fr oy⟩
      | io d' => obtain ⟨p', rfl, oy⟩ := c2; exact ⟨p', rfl, keep fr oy⟩
  · obtain ⟨⟨d', e1⟩, e2⟩ := rel2.ios ip hip
    refine ⟨⟨d', ?_⟩, e2⟩
    by_cases z : j = ip.1
    · rw [← z] at e1
      by_cases hl : j < ρ.length
      · rw [List.getElem?_set_self hl] at e1; cases e1
      · rw [List.getElem?_eq_none (by rw [List.length_set]; omega)] at e1; cases e1
    · rw [List.getElem?_set_ne z] at e1 ⊢; exact e1
  · exact rel2.ioc i d' (heldo e rfl)
  · obtain ⟨t1, t2, t3, ps, t4, t5, t6⟩ := rel2.tab t ht
    have ne : t.1 ≠ p := fun z => by rw [z] at t1; rw [hpF] at t1; cases t1
    refine ⟨by rw [erase_ne ne]; exact t1, t2, t3, ps, t4, t5, fun pos cv z => ?_⟩
    obtain ⟨c, g1, g2⟩ := t6 pos cv z
    refine ⟨c, g1, ?_⟩
    rw [erase_ne fun z => by subst z; rw [hpF] at g2; unfold LamX.CodeO at g2; cases g2]
    exact g2
  · by_cases h : a = p
    · subst h; rw [erase_same] at z; cases z
    · rw [erase_ne h] at z; exact rel2.nt _ _ z
end
end Dt
set_option Elab.async false
set_option linter.all false
set_option maxRecDepth 100000
set_option maxHeartbeats 4000000
namespace Dt
open PySem PySem.Spec PyProof.Rows L2
variable [HW]
section
variable {ex : Exx} {X : Cx} {W : WX} {k : Nat} {g : List D → FR}
def tSetT (K : PySem.W.Frag) (sp : Sp) : TSet := fun o i v H Q => ∃ a dx fs, o = .ref a ∧ H a = some (.ins (TC K) dx fs) ∧ sp [o, i, v] H (fun _ H' => Q H') fun _ _ _ => False
theorem pset_T {sp : Sp} (T : TalE X.K) (C : CalMF X.prog X.w X.K X.mg X.base "__setitem__" k sp) (hr : Room k X.A) : PSet X (tSetT X.K sp) := by
  intro pins s σ H o i v ov iv u Q I ro ri rv h
  obtain ⟨a, dx, fs, rfl, ha, q⟩ := h
  cases (show ov = Value.ref a from ro)
  obtain ⟨f, fd, ps, F, h1, h2, _, hbd⟩ := C.there
  obtain ⟨mA, O, _⟩ := ins_get I.hok ha
  obtain ⟨od, J, _⟩ := O.look
  obtain ⟨m, hF⟩ := I.fr
  refine PySem.W.ksp_setItem hF I.ok.mod.kin J T.ns h1 h2 (thn (run_atA (us := [.ref a, iv, u]) (vs := [.ref a, i, v]) F hr I.env0 hbd I (fun er s' c => passes0 pins σ H s er s' c) (.cons rfl (.cons ri (.cons rv .nil))) q) fun v' s3 ⟨z', H3, I3, rz, q3⟩ => ⟨H3, I3, q3⟩)
open Classical in
/-- xs = [e0, ..]; if t1: ..; if t2: ..; xs[0][kd] = vd, the list never looked at again -/
noncomputable def sMade (j : Nat) (sa : SE) (sA : SA) (t1 t2 : ST) (kd vd : D) (g : List D → FR) : SS := fun ρ =>
  match sa ρ with
  | .ok (.tal a) ρ1 => match sA ρ with
    | .ok ds ρ2 => if ρ1 = ρ ∧ ρ2 = ρ ∧ (ρ.set j .no).all cellFreeT = true ∧ (∀ e, ρ[j]? ≠ some (.io e)) ∧ j < ρ.length ∧ ds.length + 1 ≤ sizeLine then
        match t1 (ρ.set j (.fro (.lst (.tal a :: ds)))) with
        | .ok false r1 => match t2 (ρ.set j (.fro (.lst (.tal a :: ds)))) with
          | .ok false r2 => match g [.tal a, kd, vd] with
            | .ok _ [_] => if r1 = ρ.set j (.fro (.lst (.tal a :: ds))) ∧ r2 = ρ.set j (.fro (.lst (.tal a :: ds))) then .ok .nx (ρ.set j .no) else .stuck
            | _ => .stuck
          | _ => .stuck
        | _ => .stuck
      else .stuck
    | _ => .stuck
  | _ => .stuck
theorem d_made {j : Nat} {x : Str} {e0 c1 c2 : Expr} {es : List Expr} {b1 b2 rest : List Stmt} {sa : SE} {sA : SA} {t1 t2 : ST} {srest : SS} {kx : Str} {kv : Int} {p1 p2 p3 p4 p5 p6 p7 p8 p9 p10 q1 q2 : Pos} {k1 k2 k3} (hu : At X W) (T : TalE X.K) (C : CalMF X.prog X.w X.K X.mg X.base "__setitem__" k (spI (GK X ex) 3 g)) (hr : Room k X.A)
    (hi : X.N[j]? = some x) (hx : Loc X.env.scope x) (vis : Vis X.env.scope x) (h0 : DF (GK X ex) X W e0 sa) (hA : DA (GK X ex) X W es sA) (hT1 : DT (GK X ex) X W c1 t1) (hT2 : DT (GK X ex) X W c2 t2) (hrest : DSs (GK X ex) X W rest srest)
    (hs1 : swapsWith (.List (e0 :: es) p1) (some (.Name x p2)) p3.line X.env = pure false := by rfl) (he : starEach (e0 :: es) X.env = (false, eval e0 X.env) :: starEach es X.env := by rfl)
    (hf : X.fn x = true ∨ X.env.scope.names.lookup x = some .local := by first | exact .inl rfl | exact .inr rfl | assumption) (hdb : (x == ("__debug__" : Str)) = false := by decide) (hcd : (x == ("__classdict__" : Str)) = false := by decide)
    (hs : swapsWithSole [.Subscript (.Subscript (.Name x p4) (.Constant (.int 0) k1 p5) p6) (.Constant (.str kx) k2 p7) p8] (.Constant (.int kv) k3 p9) p10.line X.env = pure false := by rfl)
    (hw : swappedStores [.Subscript (.Subscript (.Name x p4) (.Constant (.int 0) k1 p5) p6) (.Constant (.str kx) k2 p7) p8] (.Constant (.int kv) k3 p9) X.env = pure none := by rfl)
    (h1 : (assignEach [.Subscript (.Subscript (.Name x p4) (.Constant (.int 0) k1 p5) p6) (.Constant (.str kx) k2 p7) p8] X.env).map (·.2) = [assign (.Subscript (.Subscript (.Name x p4) (.Constant (.int 0) k1 p5) p6) (.Constant (.str kx) k2 p7) p8) X.env] := by rfl)
    (ha : ∀ v, assign (.Subscript (.Subscript (.Name x p4) (.Constant (.int 0) k1 p5) p6) (.Constant (.str kx) k2 p7) p8) X.env v = (do
      let ov ← holding [v] (eval (.Subscript (.Name x p4) (.Constant (.int 0) k1 p5) p6) X.env)
      let iv ← holding [v, ov] (eval (.Constant (.str kx) k2 p7) X.env)
      standAt p8
      holding [v, ov, iv] (setItem ov iv v)
      release [v, ov, iv] []) := by intro _; rfl) :
    DSs (GK X ex) X W (.Assign [.Name x p2] (.List (e0 :: es) p1) p3 :: .If c1 b1 [] q1 :: .If c2 b2 [] q2 :: .Assign [.Subscript (.Subscript (.Name x p4) (.Constant (.int 0) k1 p5) p6) (.Constant (.str kx) k2 p7) p8] (.Constant (.int kv) k3 p9) p10 :: rest)
      (sSeq (sMade j sa sA t1 t2 (.str kx) (.int kv) g) srest) :=
  wkSs (pss_cons (ps_set hu.nd hi hx (pe_lst (pa_cons h0 hA he)) hs1 hf) (pss_cons (ps_if hT1 pss_never pss_nil) (pss_cons (ps_if hT2 pss_never pss_nil) (pss_cons (ps_asg pe_int (pg_sub (pe_ix ix_list (pe_var hi vis hdb hcd) pe_int (by intro _ _; rfl)) pe_str (pset_T T C hr) ha) hs hw h1) hrest)))) fun D σ H ⟨ρ, F, Rv, io, rel, q⟩ => by
    refine ⟨ρ, F, Rv, io, rel, ?_⟩
    unfold sSeq sMade at q
    cases e1 : sa ρ with
    | stuck => rw [e1] at q; exact q.elim
    | exc x ρ' => rw [e1] at q; exact q.elim
    | ok d ρ1 =>
    rw [e1] at q
    cases d with
    | tal a =>
      simp only at q
      cases e2 : sA ρ with
      | stuck => rw [e2] at q; exact q.elim
      | exc x ρ' => rw [e2] at q; exact q.elim
      | ok ds ρ2 =>
      rw [e2] at q
      simp only at q
      by_cases hc : ρ1 = ρ ∧ ρ2 = ρ ∧ (ρ.set j .no).all cellFreeT = true ∧ (∀ e, ρ[j]? ≠ some (.io e)) ∧ j < ρ.length ∧ ds.length + 1 ≤ sizeLine
      case neg => rw [if_neg hc] at q; exact q.elim
      rw [if_pos hc] at q
      obtain ⟨rfl, rfl, hfree, hio, hj, hz⟩ := hc
      cases e3 : t1 (ρ2.set j (.fro (.lst (.tal a :: ds)))) with
      | stuck => rw [e3] at q; exact q.elim
      | exc x ρ' => rw [e3] at q; exact q.elim
      | ok b r1 =>
      rw [e3] at q
      cases b with
      | true => exact q.elim
      | false =>
      simp only at q
      cases e4 : t2 (ρ2.set j (.fro (.lst (.tal a :: ds)))) with
      | stuck => rw [e4] at q; exact q.elim
      | exc x ρ' => rw [e4] at q; exact q.elim
      | ok b r2 =>
      rw [e4] at q
      cases b with
      | true => exact q.elim
      | false =>
      simp only at q
      cases e5 : g [.tal a, .str kx, .int kv] with
      | stuck => rw [e5] at q; exact q.elim
      | exc x => rw [e5] at q; exact q.elim
      | ok d o =>
      rw [e5] at q
      match o, q with
      | [], q => exact q.elim
      | _ :: _ :: _, q => exact q.elim
      | [z], qq =>
      simp only at qq
      by_cases hc2 : r1 = ρ2.set j (.fro (.lst (.tal a :: ds))) ∧ r2 = ρ2.set j (.fro (.lst (.tal a :: ds)))
      case neg => rw [if_neg hc2] at qq; exact qq.elim
      rw [if_pos hc2, R.bind_ok] at qq
      obtain ⟨rfl, rfl⟩ := hc2
      simp only at qq
      intro q0 H1 F1 le1 rel1 ow lo
      obtain ⟨dx, v, ho, oo, lez, rp0, relz⟩ := rel1.freezeL ow lo
      refine ⟨ρ2, _, Rv, io, relz, ?_⟩
      rw [e2]
      intro xs H2 F2 le2 rel2 rps
      refine ⟨by rw [List.length_cons, rps.length]; exact hz, fun p hp => ?_⟩
      have le3 : FLe F2 (L2.upd F2 p (.lst (.ref q0 :: xs))) := FLe.upd _ (rel2.fH.noneOf hp)
      have rel3 := (rel2.new hp (.lst (.ref q0 :: xs))).setFro (i := j) (v := .ref p) (d := .lst (.tal a :: ds)) (.lst upd_same (.cons (rp0.mono (le2.trans le3)) (rps.mono le3))) hio
      refine ⟨_, _, Rv, io, rel3, ?_⟩
      rw [e3]
      intro H3 F3 le4 rel4
      refine ⟨_, F3, Rv, io, rel4, ?_⟩
      rw [e4]
      intro H4 F4 le5 rel5
      have leT := ((le2.trans le3).trans le4).trans le5
      have hj2 : j < σ.length := by rw [← rel.len]; exact hj
      obtain ⟨leF, owq, loq, rel6⟩ := rel1.thawL ow.nF ow.nR oo leT rel5 hfree
      have hpl : H4 p = some (.lst (.ref q0 :: xs)) := rel5.fH _ _ ((le4.trans le5) _ _ upd_same)
      have hq0 : H4 q0 = some (.ins (TC X.K) dx [("row", v)]) := rel5.fH _ _ (leT _ _ upd_same)
      refine ⟨.ref p, List.getElem?_set_self hj2, p, _, 0, .ref q0, rfl, rfl, SqL.of hpl, (L2.atI_nat (xs := .ref q0 :: xs) (j := 0) rfl : L2.atI (.ref q0 :: xs) ((0 : Nat) : Int) = some (.ref q0)), q0, dx, _, rfl, hq0, ?_⟩
      have hio2 : ∀ e, (ρ2.set j .no)[j]? ≠ some (Cell.io e) := fun e z => by rw [List.getElem?_set_self hj] at z; cases z
      have relS := rel6.setOwn (i := j) owq loq hio2
      have hc7 : ((ρ2.set j .no).set j (.own (.tal a)))[j]? = some (.own (.tal a)) := List.getElem?_set_self (by rw [List.length_set]; exact hj)
      have hp7 : ((σ.set j (some (.ref p))).set j (some (.ref q0)))[j]? = some (some (.ref q0)) := List.getElem?_set_self (by rw [List.length_set]; exact hj2)
      have nR : restOf (eraseH F4 q0) H4 (some q0) q0 = none := by unfold restOf; rw [if_neg (fun z => z.2 rfl)]
      refine ⟨q0, [.str kx, .int kv], .tal a, [.str kx, .int kv], _, restOf (eraseH F4 q0) H4 (some q0), rfl, rfl, restOf_apart relS (some q0), ⟨owq.nF, nR, owq.at_⟩, .cons (.str _) (.cons (.int _) .nil), ?_⟩
      rw [e5]
      intro v' H5 F5 le6 ap ow5 rp5
      have rel8 := relS.behindI hc7 rfl hp7 le6 ap ow5
      have hio9 : ∀ e, (((ρ2.set j .no).set j (.own (.tal a))).set j (Cell.put (.own (.tal a)) z))[j]? ≠ some (Cell.io e) := fun e y => by
        rw [List.getElem?_set_self (by rw [List.length_set, List.length_set]; exact hj)] at y; cases y
      have rel9 := rel8.forget (i := j) (some (.ref p)) hio9
      simp only [List.set_set] at rel9
      exact ⟨ρ2.set j .no, F5, Rv, io, rel9, SPost.le qq (((le1.trans leF).trans le6))⟩
    | _ => exact q.elim
end
end Dt
set_option Elab.async false
set_option linter.all false
set_option maxRecDepth 100000
set_option maxHeartbeats 4000000
namespace Dt
open PySem PySem.Spec PyProof.Rows L2
variable [HW]
section
variable {ex : Exx} {X : Cx} {W : WX} {k : Nat} {g : List D → FR} {x : Str} {e : Expr} {pos : Pos}
def tAugT (K : PySem.W.Frag) (j : Nat) (te : TE) (sp : Sp) : TS := fun D σ H => ∃ p0, σ[j]? = some (some (.ref p0)) ∧ te σ H fun y H2 => (∃ dx fs, H2 p0 = some (.ins (TC K) dx fs)) ∧ sp [.ref p0, y] H2 (fun v H3 => v = .ref p0 ∧ D.nx σ H3) fun _ _ _ => False
theorem ps_augT {i : Nat} {m : Str} {op : Operator} {pos' : Pos} {te : TE} {sp : Sp} (hu : At X W) (T : TalE X.K) (hmn : dunderI op.info.2 = m) (C : CalMF X.prog X.w X.K X.mg X.base m k sp) (hr : Room k X.A) (hi : X.N[i]? = some x) (hx : Loc X.env.scope x) (he : PE X e te)
    (hf : X.fn x = true ∨ X.env.scope.names.lookup x = some .local := by first | exact .inl rfl | exact .inr rfl | assumption) : PS X (.AugAssign (.Name x pos') op e pos) (tAugT X.K i te sp) := ⟨fun pins s σ H D I ⟨p0, hp, q⟩ => by
  subst hmn
  obtain ⟨m, hn, hl⟩ := I.loc
  have vis : Vis X.env.scope x := by rcases hx with k | k; exact .inl k; exact .inr (.inl k)
  obtain ⟨u, r, l⟩ := hl i x _ hi hp vis
  cases (show u = Value.ref p0 from r)
  refine wpAny_AugAssign_Name ?_
  have go : wpAny (model X.prog X.w) X.A (eval e X.env) (fun w s₂ => wpAny (model X.prog X.w) X.A (inplaceOp op (.ref p0) w) (fun r s₃ => wpAny (model X.prog X.w) X.A (storeName X.env x r) (fun _ => SP X pins D .next) X.xe s₃) X.xe s₂) X.xe s := by
    refine thn (he.run pins s σ H _ I q) fun w s1 ⟨y, H2, I2, r2, ⟨dx, fs, hins⟩, q2⟩ => ?_
    obtain ⟨f, fd, ps, F, h1, h2, _, hbd⟩ := C.there
    obtain ⟨mA, O, _⟩ := ins_get I2.hok hins
    obtain ⟨od, J, _⟩ := O.look
    obtain ⟨m2, hF⟩ := I2.fr
    refine PySem.W.ksp_inplace hF I2.ok.mod.kin J T.sf h1 h2 (thn (run_atA (us := [.ref p0, w]) (vs := [.ref p0, y]) F hr I2.env0 hbd I2 (fun er s' c => passes0 pins σ H2 s1 er s' c) (.cons rfl (.cons r2 .nil)) q2) fun v' s3 ⟨z', H3, I3, rz, ez, q3⟩ => ?_)
    subst ez
    refine SlX.cmpback rz ?_
    exact store_ok I3 hu.nd hi hx rz (fun s4 I4 => ⟨_, H3, by rw [set_same hp] at I4; exact I4, q3⟩) hf
  rcases l with ⟨hk, hm⟩ | ⟨hk, c, hc, hcell⟩
  · exact wpAny_loadName_local I.ok.kind hk hn hm go
  · rcases hk with hk | hk
    · exact wpAny_loadName_cell I.ok.kind hk hc hcell go
    · rcases hx with k | k
      · have : X.env.scope.names.lookup x = some .free := hk
        rw [k] at this; cases this
      · have : X.env.scope.names.lookup x = some .free := hk
        rw [k] at this; cases this⟩
open Classical in
/-- the variable at j is set to the tally at i, changed by it, and both are read; it is not looked at again -/
noncomputable def sThird (i j : Nat) (se : SE) (t : ST) (g : List D → FR) : SS := fun ρ => match held ρ i with
  | some (.tal d0) => match se (ρ.set j .no) with
    | .ok k r0 => match g [.tal d0, k] with
      | .ok _ [.tal y] => if r0 = ρ.set j .no ∧ (∀ e, ρ[j]? ≠ some (.io e)) ∧ j < ρ.length ∧ i ≠ j ∧ ((ρ.set j .no).set i .no).all cellFreeT = true then
          match t (((ρ.set j .no).set i (.fro (.tal y))).set j (.fro (.tal y))) with
          | .ok false r1 => if r1 = ((ρ.set j .no).set i (.fro (.tal y))).set j (.fro (.tal y)) then .ok .nx (put (ρ.set j .no) i (.tal y)) else .stuck
          | _ => .stuck
        else .stuck
      | _ => .stuck
    | _ => .stuck
  | _ => .stuck
theorem set_no_idem {ρ : Env} {i j : Nat} {c : Cell} (hj : j < ρ.length) (ij : i ≠ j) : ((ρ.set j .no).set i c).set j .no = (ρ.set j .no).set i c := List.ext_getElem? fun l => by
  by_cases z : j = l
  · subst z
    rw [List.getElem?_set_self (by rw [List.length_set, List.length_set]; exact hj), List.getElem?_set_ne ij, List.getElem?_set_self hj]
  · rw [List.getElem?_set_ne z]
theorem d_third {i j : Nat} {y : Str} {e : Expr} {op : Operator} {m : Str} {c1 : Expr} {b1 rest : List Stmt} {se : SE} {t : ST} {srest : SS} {p1 p2 p3 p4 p5 q1 : Pos} (hu : At X W) (T : TalE X.K) (hmn : dunderI op.info.2 = m) (C : CalMF X.prog X.w X.K X.mg X.base m k (spIS (GK X ex) 2 g)) (hr : Room k X.A)
    (hi : X.N[j]? = some y) (hx : Loc X.env.scope y) (ho : PE X (.Name x p1) (tVar i)) (he : DE (GK X ex) X W e se) (hT : DT (GK X ex) X W c1 t) (hrest : DSs (GK X ex) X W rest srest)
    (hs1 : swapsWith (.Name x p1) (some (.Name y p2)) p3.line X.env = pure false := by rfl) (hf : X.fn y = true ∨ X.env.scope.names.lookup y = some .local := by first | exact .inl rfl | exact .inr rfl | assumption) :
    DSs (GK X ex) X W (.Assign [.Name y p2] (.Name x p1) p3 :: .AugAssign (.Name y p4) op e p5 :: .If c1 b1 [] q1 :: rest) (sSeq (sThird i j se t g) srest) :=
  wkSs (pss_cons (ps_set hu.nd hi hx ho hs1 hf) (pss_cons (ps_augT hu T hmn C hr hi hx he hf) (pss_cons (ps_if hT pss_never pss_nil) hrest))) fun D σ H ⟨ρ, F, Rv, io, rel, q⟩ => by
    unfold sSeq sThird at q
    cases e0 : held ρ i with
    | none => rw [e0] at q; exact q.elim
    | some d00 =>
    rw [e0] at q
    cases d00 with
    | tal d0 =>
      simp only at q
      cases e1 : se (ρ.set j .no) with
      | stuck => rw [e1] at q; exact q.elim
      | exc x ρ' => rw [e1] at q; exact q.elim
      | ok kd r0 =>
      rw [e1] at q
      simp only at q
      cases e2 : g [.tal d0, kd] with
      | stuck => rw [e2] at q; exact q.elim
      | exc x => rw [e2] at q; exact q.elim
      | ok d o =>
      rw [e2] at q
      rcases o with _ | ⟨z, _ | ⟨z2, o2⟩⟩
      · exact q.elim
      case cons.cons => cases z <;> exact q.elim
      cases z with
      | tal yy =>
        simp only at q
        by_cases hc : r0 = ρ.set j .no ∧ (∀ e, ρ[j]? ≠ some (.io e)) ∧ j < ρ.length ∧ i ≠ j ∧ ((ρ.set j .no).set i .no).all cellFreeT = true
        case neg => rw [if_neg hc] at q; exact q.elim
        rw [if_pos hc] at q
        cases e3 : t (((ρ.set j .no).set i (.fro (.tal yy))).set j (.fro (.tal yy))) with
        | stuck => rw [e3] at q; exact q.elim
        | exc x ρ' => rw [e3] at q; exact q.elim
        | ok b r1 =>
        rw [e3] at q
        cases b with
        | true => exact q.elim
        | false =>
        simp only at q
        by_cases hc2 : r1 = ((ρ.set j .no).set i (.fro (.tal yy))).set j (.fro (.tal yy))
        case neg => rw [if_neg hc2] at q; exact q.elim
        rw [if_pos hc2, R.bind_ok] at q
        simp only at q
        have qq : SPost (GK X ex) W io Rv F (srest (put (ρ.set j .no) i (.tal yy))) D := q
        clear q
        obtain ⟨hr0, hio, hj, ij, hfree⟩ := hc
        obtain ⟨c0, hc0, hh0⟩ := held_some e0
        obtain ⟨p0, hp, _⟩ := rel.heldAt hc0 hh0
        have hj2 : j < σ.length := by rw [← rel.len]; exact hj
        have hpA : (σ.set j (some (.ref p0)))[i]? = some (some (.ref p0)) := by rw [List.getElem?_set_ne (fun z => ij z.symm)]; exact hp
        have relA := rel.forget (i := j) (some (.ref p0)) hio
        have hcA : (ρ.set j .no)[i]? = some c0 := by rw [List.getElem?_set_ne (fun z => ij z.symm)]; exact hc0
        refine ⟨.ref p0, hp, p0, List.getElem?_set_self hj2, ρ.set j .no, F, Rv, io, relA, ?_⟩
        rw [e1]
        intro y' H2 F2 le2 rel2 rk
        rw [hr0] at rel2
        obtain ⟨p', e4, w⟩ := rel2.heldAt hcA hh0
        rw [hpA] at e4
        cases e4
        have nR : restOf F2 H2 (some p0) p0 = none := by unfold restOf; rw [if_neg (fun z => z.2 rfl)]
        obtain ⟨ob, h1, h2⟩ := w.at_
        refine ⟨?_, p0, [y'], .tal d0, [kd], F2, restOf F2 H2 (some p0), rfl, rfl, restOf_apart rel2 _, ⟨w.nF, nR, ob, h1, h2⟩, .cons rk .nil, ?_⟩
        · obtain ⟨_, dx, xx, rfl, _⟩ := h2
          exact ⟨dx, _, h1⟩
        rw [e2]
        intro H3 F3 le3 ap ow
        refine ⟨rfl, ?_⟩
        have rel3 := rel2.behindI hcA hh0 hpA le3 ap ow
        have hil : i < (ρ.set j .no).length := (List.getElem?_eq_some_iff.mp hcA).1
        have hc3 : ((ρ.set j .no).set i (c0.put (.tal yy)))[i]? = some (c0.put (.tal yy)) := List.getElem?_set_self hil
        have hh3 : (c0.put (.tal yy)).held = some (.tal yy) := by cases c0 <;> first | rfl | cases hh0
        obtain ⟨p'', e5, w3⟩ := rel3.heldAt hc3 hh3
        rw [hpA] at e5
        cases e5
        obtain ⟨o3, h3, h3o⟩ := w3.at_
        have h3o' := h3o
        obtain ⟨_, dx3, x3, rfl, rx3⟩ := h3o
        obtain ⟨leZ, relZ⟩ := rel3.freezeT hc3 hh3 hpA h3 h3o'
        rw [List.set_set] at relZ
        have hioZ : ∀ e, ((ρ.set j .no).set i (.fro (.tal yy)))[j]? ≠ some (Cell.io e) := fun e z => by rw [List.getElem?_set_ne ij, List.getElem?_set_self hj] at z; cases z
        have relY := relZ.setFro (i := j) (v := .ref p0) (d := .tal yy) (.tal upd_same (rx3.mono leZ)) hioZ
        rw [set_same (List.getElem?_set_self hj2)] at relY
        refine ⟨_, _, Rv, ioBut io i, relY, ?_⟩
        rw [e3]
        intro H4 F4 le4 rel4
        rw [hc2] at rel4
        have hio4 : ∀ e, (((ρ.set j .no).set i (.fro (.tal yy))).set j (.fro (.tal yy)))[j]? ≠ some (Cell.io e) := fun e z => by rw [List.getElem?_set_self (by rw [List.length_set, List.length_set]; exact hj)] at z; cases z
        have rel5 := rel4.forget (i := j) (some (.ref p0)) hio4
        rw [set_same (List.getElem?_set_self hj2), List.set_set, set_no_idem hj ij] at rel5
        have rel5' : Rel X.K (ioBut io i) Rv (((ρ.set j .no).set i (c0.put (.tal yy))).set i (.fro (.tal yy))) F4 (σ.set j (some (.ref p0))) H4 := by rw [List.set_set]; exact rel5
        obtain ⟨leF, rel6⟩ := rel3.thawT hc3 hh3 hpA w3.nF w3.nR h3o' le4 rel5' (by rw [List.set_set]; exact hfree)
        refine ⟨put (ρ.set j .no) i (.tal yy), eraseH F4 p0, Rv, io, ?_, SPost.le qq ((le2.trans le3).trans leF)⟩
        unfold put
        rw [hcA]
        exact rel6
      | _ => exact q.elim
    | _ => exact q.elim
end
end Dt
set_option Elab.async false
set_option linter.all false
set_option maxRecDepth 100000
set_option maxHeartbeats 4000000
namespace Dt
open PySem PySem.Spec PyProof.Rows L2
variable [HW]
section
variable {ex : Exx} {X : Cx} {W : WX} {a b : Expr} {pos : Pos} {se : SE} {k : Nat} {g : List D → Option D}
theorem d_binN {op : Operator} {i : Nat} {m : Str} (hm : PySem.dunder op.info.2 = m) (C : CalMF X.prog X.w X.K X.mg X.base m k (spIF (GK X ex) 2 g)) (T : TalE X.K) (hr : Room k X.A) (ha : PE X a (tVar i)) (hb : DE (GK X ex) X W b se) :
    DF (GK X ex) X W (.BinOp a op b pos) (sBinT i g se) := by
  subst hm
  exact d_binT C T.sf hr ha hb
end
end Dt
set_option Elab.async false
set_option linter.all false
set_option maxRecDepth 100000
set_option maxHeartbeats 4000000
namespace Lw
open PySem PySem.Spec PyProof.Rows L2 Dt
noncomputable section
def top (i : Nat) : Stmt := PySem.Challenge.pw_countersums_k26_whole_tallies_by_operato.main.body.getD i (.Pass ⟨0, 0, 0, 0⟩)
def wdX : Exn → Option D := fun x => if x.cls = "NoCounter" then some (.str "counter") else if x.cls = "NoName" then some (.str "name") else if x.cls = "NoNumber" then some (.str "number") else none
abbrev st_one_count : Stmt := top 18
theorem sc_one_count : FnScope ["way", "count", "other", "sign", "first", "second", "found"] ["way", "count", "other"] (defScope st_one_count) := ⟨rfl, rfl, rfl, by decide +kernel, rfl, by decide +kernel, by decide +kernel⟩
def i0_one_count : SS := sIfS (sTst (sOps gEq (b2 (sLoc 0) (sVal (sCst (.str "add")))))) (sAsg (gSet 6) (sOps gAdd (b2 (sLoc 4) (sLoc 5)))) (sIfS (sTst (sOps gEq (b2 (sLoc 0) (sVal (sCst (.str "less")))))) (sAsg (gSet 6) (sOps gSub (b2 (sLoc 4) (sLoc 5)))) (sAsg (gSet 6) (sIf (sTst (sOps gEq (b2 (sLoc 0) (sVal (sCst (.str "most")))))) (sOps gMax2 (bCons (sLoc 4) (bCons (sLoc 5) bNil))) (sOps gMin2 (bCons (sLoc 4) (bCons (sLoc 5) bNil))))))
def b_one_count : SS := (sSeq (sIfS (tAndS (sTst (sOps gIs (b2 (sLoc 1) (sVal (sCst .non))))) (sTst (sOps gIs (b2 (sLoc 2) (sVal (sCst .non)))))) (sRet (sCst .non)) sNx)
  (sSeq (sIfS (tOrS (sTst (sOps gEq (b2 (sLoc 0) (sVal (sCst (.str "update")))))) (sTst (sOps gEq (b2 (sLoc 0) (sVal (sCst (.str "subtract"))))))) (sSeq (sAsg (gSet 3) (sIf (sTst (sOps gEq (b2 (sLoc 0) (sVal (sCst (.str "update")))))) (sCst (.int 1)) (sOps gNeg (b1 (sVal (sCst (.int 1)))))))
  (sRet (sOps gAdd (b2 (sVal (sIf (sTst (sOps gIs (b2 (sLoc 1) (sVal (sCst .non))))) (sCst (.int 0)) (sVar 1))) (sVal (sOps gMul (b2 (sLoc 3) (sVal (sIf (sTst (sOps gIs (b2 (sLoc 2) (sVal (sCst .non))))) (sCst (.int 0)) (sVar 2)))))))))) sNx)
  (sSeq (sIfS (tAndS (sTst (sOps gEq (b2 (sLoc 0) (sVal (sCst (.str "least")))))) (sTst (sOps gIs (b2 (sLoc 1) (sVal (sCst .non)))))) (sRet (sCst .non)) sNx)
  (sSeq (sPar 4 5 (sCons (sIf (sTst (sOps gIs (b2 (sLoc 1) (sVal (sCst .non))))) (sCst (.int 0)) (sVar 1)) (sCons (sIf (sTst (sOps gIs (b2 (sLoc 2) (sVal (sCst .non))))) (sCst (.int 0)) (sVar 2)) sNil)))
  (sSeq i0_one_count
  (sRet (sIf (sTst (sOps gGt (b2 (sLoc 6) (sVal (sCst (.int 0)))))) (sVar 6) (sCst .non))))))))
def m_one_count : List D → FR := runP 7 3 b_one_count
abbrev st_joined : Stmt := top 19
theorem sc_joined : FnScope ["way", "one", "other", "found", "key", "counts", "others", "count"] ["way", "one", "other"] (defScope st_joined) := ⟨rfl, rfl, rfl, by decide +kernel, rfl, by decide +kernel, by decide +kernel⟩
def c0_joined : SE := sComp [4] (iAny (sVar 6)) (gSet 4) (sTst (sOps gNotIn (b2 (sLoc 4) (sLoc 5)))) (sVar 4)
def t0_joined : SS := (sSeq (sAsg (gSet 7) (sCallP 3 (m_one_count) (sCons (sVar 0) (sCons (sGet1 (sLoc 5) (sVar 4)) (sCons (sGet1 (sLoc 6) (sVar 4)) sNil)))))
  (sIfS (sTst (sOps gIsNot (b2 (sLoc 7) (sVal (sCst .non))))) (sExpr (sMut 3 mAppend (sCons (sTup (sCons (sVar 4) (sCons (sVar 7) sNil))) sNil))) sNx))
def l0_joined : SS := sFor (iAny (sOps gAdd (b2 (sVal (sOps gList (bCons (sLoc 5) bNil))) (sVal c0_joined)))) (gSet 4) t0_joined
def b_joined : SS := (sSeq (sAsg (gTup' 2 (gC (gSet 5) (gC (gSet 6) gN))) (sTup (sCons (sOps gDict (bCons (sLoc 1) bNil)) (sCons (sOps gDict (bCons (sLoc 2) bNil)) sNil))))
  (sSeq (sAsg (gOwn 3) (sLst sNil))
  (sSeq l0_joined
  (sRet (sOps gTuple (bCons (sLoc 3) bNil))))))
def m_joined : List D → FR := runP 8 3 b_joined
abbrev st_looked : Stmt := top 29
theorem sc_looked : FnScope ["other"] ["other"] (defScope st_looked) := ⟨rfl, rfl, rfl, by decide +kernel, rfl, by decide +kernel, by decide +kernel⟩
def b_looked : SS := (sSeq (sIfS (tNotS (sTru (sVal (sIsT (sLoc 0))))) (sRaise "NoCounter") sNx)
  (sRet (sRow (sLoc 0))))
def m_looked : List D → FR := runP 1 1 b_looked
abbrev st_T___iadd__ : Stmt := (clsBody (top 26)).getD 23 (.Pass ⟨0, 0, 0, 0⟩)
theorem sc_T___iadd__ : FnScope ["self", "other"] ["self", "other"] (defScope st_T___iadd__) := ⟨rfl, rfl, rfl, by decide +kernel, rfl, by decide +kernel, by decide +kernel⟩
def b_T___iadd__ : SS := (sRowSet 0 (sCallP 3 (m_joined) (sCons (sCst (.str "add")) (sCons (sRow (sLoc 0)) (sCons (sCallP 1 (m_looked) (sCons (sVar 1) sNil)) sNil)))))
def m_T___iadd__ : List D → FR := runS 2 2 b_T___iadd__
abbrev st_with_count : Stmt := top 28
theorem sc_with_count : FnScope ["row", "key", "count", "one", "other"] ["row", "key", "count"] (defScope st_with_count) := ⟨rfl, rfl, rfl, by decide +kernel, rfl, by decide +kernel, by decide +kernel⟩
def c0_with_count : SE := sComp [3, 4] (iAny (sVar 0)) (gTup' 2 (gC (gSet 3) (gC (gSet 4) gN))) tT1 (sVar 3)
def c1_with_count : SE := sComp [3, 4] (iAny (sVar 0)) (gTup' 2 (gC (gSet 3) (gC (gSet 4) gN))) tT1 (sTup (sCons (sVar 3) (sCons (sIf (sTst (sOps gEq (b2 (sLoc 3) (sLoc 1)))) (sVar 2) (sVar 4)) sNil)))
def b_with_count : SS := (sSeq (sIfS (sTst (sOps gIn (b2 (sLoc 1) (sVal c0_with_count)))) (sRet (sOps gTuple (bCons (sVal c1_with_count) bNil))) sNx)
  (sRet (sOps gAdd (b2 (sLoc 0) (sVal (sTup (sCons (sTup (sCons (sVar 1) (sCons (sVar 2) sNil))) sNil)))))))
def m_with_count : List D → FR := runP 5 3 b_with_count
abbrev st_is_name : Stmt := top 16
theorem sc_is_name : FnScope ["thing", "sign"] ["thing"] (defScope st_is_name) := ⟨rfl, rfl, rfl, by decide +kernel, rfl, by decide +kernel, by decide +kernel⟩
def c0_is_name : SE := sComp [1] (iAny (sVar 0)) (gSet 1) tT1 (sOps gIn (b2 (sLoc 1) (sVal (sCst (.str "abcdefghijklmnopqrstuvwxyz")))))
def b_is_name : SS := (sRet (sAnd (sIsi ["str"] (sLoc 0)) (sAnd (sChain gLe gLe (sVal (sCst (.int 1))) (sVal (sOps gLen (bCons (sLoc 0) bNil))) (sVal (sCst (.int 8)))) (sOps gAll (bCons (sVal c0_is_name) bNil)))))
def m_is_name : List D → FR := runP 2 1 b_is_name
abbrev st_is_integer : Stmt := top 15
theorem sc_is_integer : FnScope ["thing"] ["thing"] (defScope st_is_integer) := ⟨rfl, rfl, rfl, by decide +kernel, rfl, by decide +kernel, by decide +kernel⟩
def b_is_integer : SS := (sRet (sAnd (sIsi ["int"] (sLoc 0)) (sNot (sVal (sIsi ["bool"] (sLoc 0))))))
def m_is_integer : List D → FR := runP 1 1 b_is_integer
abbrev st_T___setitem__ : Stmt := (clsBody (top 26)).getD 12 (.Pass ⟨0, 0, 0, 0⟩)
theorem sc_T___setitem__ : FnScope ["self", "key", "count"] ["self", "key", "count"] (defScope st_T___setitem__) := ⟨rfl, rfl, rfl, by decide +kernel, rfl, by decide +kernel, by decide +kernel⟩
def b_T___setitem__ : SS := (sSeq (sIfS (tNotS (sTru (sVal (sCallP 1 (m_is_name) (sCons (sVar 1) sNil))))) (sRaise "NoName") sNx)
  (sSeq (sIfS (tNotS (sTru (sVal (sCallP 1 (m_is_integer) (sCons (sVar 2) sNil))))) (sRaise "NoNumber") sNx)
  (sRowSet 0 (sCallP 3 (m_with_count) (sCons (sRow (sLoc 0)) (sCons (sVar 1) (sCons (sVar 2) sNil)))))))
def m_T___setitem__ : List D → FR := runI 3 3 b_T___setitem__
abbrev st_keys_of : Stmt := top 21
theorem sc_keys_of : FnScope ["counters", "counter", "key", "count"] ["counters"] (defScope st_keys_of) := ⟨rfl, rfl, rfl, by decide +kernel, rfl, by decide +kernel, by decide +kernel⟩
def c0_keys_of : SE := sDComp2 [1, 2, 3] [2, 3] (iAny (sVar 0)) (gSet 1) (iAny (sVar 1)) (gTup' 2 (gC (gSet 2) (gC (gSet 3) gN))) (sVar 2) (sCst (.bl true))
def b_keys_of : SS := (sRet (sOps gList (bCons (sVal c0_keys_of) bNil)))
def m_keys_of : List D → FR := runP 4 1 b_keys_of
abbrev st_all_equal : Stmt := top 22
theorem sc_all_equal : FnScope ["one", "other", "counts", "others", "key"] ["one", "other"] (defScope st_all_equal) := ⟨rfl, rfl, rfl, by decide +kernel, rfl, by decide +kernel, by decide +kernel⟩
def c0_all_equal : SE := sComp [4] (iAny (sCallS (m_keys_of) (sCons (sVar 0) (sCons (sVar 1) sNil)))) (gSet 4) tT1 (sOps gEq (b2 (sVal (sGet2 (sLoc 2) (sVar 4) (sCst (.int 0)))) (sVal (sGet2 (sLoc 3) (sVar 4) (sCst (.int 0))))))
def b_all_equal : SS := (sSeq (sAsg (gTup' 2 (gC (gSet 2) (gC (gSet 3) gN))) (sTup (sCons (sOps gDict (bCons (sLoc 0) bNil)) (sCons (sOps gDict (bCons (sLoc 1) bNil)) sNil))))
  (sRet (sOps gAll (bCons (sVal c0_all_equal) bNil))))
def m_all_equal : List D → FR := runP 5 2 b_all_equal
abbrev st_T___eq__ : Stmt := (clsBody (top 26)).getD 16 (.Pass ⟨0, 0, 0, 0⟩)
theorem sc_T___eq__ : FnScope ["self", "other"] ["self", "other"] (defScope st_T___eq__) := ⟨rfl, rfl, rfl, by decide +kernel, rfl, by decide +kernel, by decide +kernel⟩
def b_T___eq__ : SS := (sSeq (sIfS (tNotS (sTru (sVal (sIsT (sLoc 1))))) sNever sNx)
  (sRet (sCallP 2 (m_all_equal) (sCons (sRow (sLoc 0)) (sCons (sRow (sLoc 1)) sNil)))))
def m_T___eq__ : List D → FR := runP 2 2 b_T___eq__
abbrev st_T___bool__ : Stmt := (clsBody (top 26)).getD 15 (.Pass ⟨0, 0, 0, 0⟩)
theorem sc_T___bool__ : FnScope ["self"] ["self"] (defScope st_T___bool__) := ⟨rfl, rfl, rfl, by decide +kernel, rfl, by decide +kernel, by decide +kernel⟩
def b_T___bool__ : SS := (sRet (sOps gBoolR (bCons (sVal (sRow (sLoc 0))) bNil)))
def m_T___bool__ : List D → FR := runP 1 1 b_T___bool__
abbrev st_is_counter : Stmt := top 17
theorem sc_is_counter : FnScope ["thing", "part"] ["thing"] (defScope st_is_counter) := ⟨rfl, rfl, rfl, by decide +kernel, rfl, by decide +kernel, by decide +kernel⟩
def t0_is_counter : SS := (sIfS (tOrS (tNotS (sTru (sVal (sIsi ["tuple"] (sLoc 1))))) (tOrS (sTst (sOps gNe (b2 (sVal (sOps gLen (bCons (sLoc 1) bNil))) (sVal (sCst (.int 2)))))) (tOrS (tNotS (sTru (sVal (sCallP 1 (m_is_name) (sCons (sOps gIdx (b2 (sLoc 1) (sVal (sCst (.int 0))))) sNil))))) (tNotS (sTru (sVal (sCallP 1 (m_is_integer) (sCons (sOps gIdx (b2 (sLoc 1) (sVal (sCst (.int 1))))) sNil)))))))) (sRet (sCst (.bl false))) sNx)
def l0_is_counter : SS := sFor (iAny (sVar 0)) (gSet 1) t0_is_counter
def c0_is_counter : SE := sDComp [1] (iAny (sVar 0)) (gSet 1) tT1 (sOps gIdx (b2 (sLoc 1) (sVal (sCst (.int 0))))) (sCst (.bl true))
def b_is_counter : SS := (sSeq (sIfS (tNotS (sTru (sVal (sIsiU (sLoc 0))))) (sRet (sCst (.bl false))) sNx)
  (sSeq l0_is_counter
  (sRet (sOps gEq (b2 (sVal (sOps gLen (bCons (sVal c0_is_counter) bNil))) (sVal (sOps gLen (bCons (sLoc 0) bNil))))))))
def m_is_counter : List D → FR := runP 2 1 b_is_counter
abbrev st_T___init__ : Stmt := (clsBody (top 26)).getD 0 (.Pass ⟨0, 0, 0, 0⟩)
theorem sc_T___init__ : FnScope ["self", "counter"] ["self", "counter"] (defScope st_T___init__) := ⟨rfl, rfl, rfl, by decide +kernel, rfl, by decide +kernel, by decide +kernel⟩
def b_T___init__ : SS := (sIfS (tNotS (sTru (sVal (sCallP 1 (m_is_counter) (sCons (sVar 1) sNil))))) (sRaise "NoCounter") sNx)
def m_T___init__ : D → FR := fun d => match m_is_counter [d] with
  | .ok (.bl true) _ => .ok d []
  | .ok (.bl false) _ => .exc ⟨"NoCounter", .non⟩
  | _ => .stuck
abbrev st_T___add__ : Stmt := (clsBody (top 26)).getD 17 (.Pass ⟨0, 0, 0, 0⟩)
theorem sc_T___add__ : FnScope ["self", "other"] ["self", "other"] (defScope st_T___add__) := ⟨rfl, rfl, rfl, by decide +kernel, rfl, by decide +kernel, by decide +kernel⟩
def b_T___add__ : SS := (sIfS (tNotS (sTru (sVal (sIsT (sLoc 1))))) sNever sNx)
def e_T___add__ : SE := (sMkT m_T___init__ (sCallP 3 (m_joined) (sCons (sCst (.str "add")) (sCons (sRow (sLoc 0)) (sCons (sRow (sLoc 1)) sNil)))))
def m_T___add__ : List D → Option D := runNew 2 2 b_T___add__ e_T___add__
abbrev st_T___sub__ : Stmt := (clsBody (top 26)).getD 18 (.Pass ⟨0, 0, 0, 0⟩)
theorem sc_T___sub__ : FnScope ["self", "other"] ["self", "other"] (defScope st_T___sub__) := ⟨rfl, rfl, rfl, by decide +kernel, rfl, by decide +kernel, by decide +kernel⟩
def b_T___sub__ : SS := (sIfS (tNotS (sTru (sVal (sIsT (sLoc 1))))) sNever sNx)
def e_T___sub__ : SE := (sMkT m_T___init__ (sCallP 3 (m_joined) (sCons (sCst (.str "less")) (sCons (sRow (sLoc 0)) (sCons (sRow (sLoc 1)) sNil)))))
def m_T___sub__ : List D → Option D := runNew 2 2 b_T___sub__ e_T___sub__
abbrev st_T___or__ : Stmt := (clsBody (top 26)).getD 19 (.Pass ⟨0, 0, 0, 0⟩)
theorem sc_T___or__ : FnScope ["self", "other"] ["self", "other"] (defScope st_T___or__) := ⟨rfl, rfl, rfl, by decide +kernel, rfl, by decide +kernel, by decide +kernel⟩
def b_T___or__ : SS := (sIfS (tNotS (sTru (sVal (sIsT (sLoc 1))))) sNever sNx)
def e_T___or__ : SE := (sMkT m_T___init__ (sCallP 3 (m_joined) (sCons (sCst (.str "most")) (sCons (sRow (sLoc 0)) (sCons (sRow (sLoc 1)) sNil)))))
def m_T___or__ : List D → Option D := runNew 2 2 b_T___or__ e_T___or__
abbrev st_T___and__ : Stmt := (clsBody (top 26)).getD 20 (.Pass ⟨0, 0, 0, 0⟩)
theorem sc_T___and__ : FnScope ["self", "other"] ["self", "other"] (defScope st_T___and__) := ⟨rfl, rfl, rfl, by decide +kernel, rfl, by decide +kernel, by decide +kernel⟩
def b_T___and__ : SS := (sIfS (tNotS (sTru (sVal (sIsT (sLoc 1))))) sNever sNx)
def e_T___and__ : SE := (sMkT m_T___init__ (sCallP 3 (m_joined) (sCons (sCst (.str "least")) (sCons (sRow (sLoc 0)) (sCons (sRow (sLoc 1)) sNil)))))
def m_T___and__ : List D → Option D := runNew 2 2 b_T___and__ e_T___and__
abbrev st_L_draw : Stmt := top 31
theorem sc_L_draw : FnScope ["_law_tape", "_law_many", "_law_prime", "_law_found", "_law_cell"] ["_law_tape", "_law_many"] (defScope st_L_draw) := ⟨rfl, rfl, rfl, by decide +kernel, rfl, by decide +kernel, by decide +kernel⟩
def u0_L_draw : SS := (sSeq (sAsg (gSet 4) (sOps gMod (b2 (sVal (sOps gInt (bCons (sVal (sOps gAdd (b2 (sLoc 4) (sVal (sOps gMul (b2 (sVal (sCst (.int 1000003))) (sVal (sOps gIdx (b2 (sLoc 0) (sVal (sCst (.int 1)))))))))))) bNil))) (sLoc 2))))
  (sSeq (sAsg (gSet 4) (sOps gMod (b2 (sVal (sOps gInt (bCons (sVal (sOps gAdd (b2 (sVal (sOps gAdd (b2 (sVal (sOps gMul (b2 (sLoc 4) (sLoc 4)))) (sVal (sOps gMul (b2 (sVal (sCst (.int 1181783497276652981))) (sLoc 4))))))) (sVal (sCst (.int 2049848353892358983)))))) bNil))) (sLoc 2))))
  (sAsg (gSet 4) (sOps gMod (b2 (sVal (sOps gInt (bCons (sVal (sOps gAdd (b2 (sVal (sOps gMul (b2 (sLoc 4) (sLoc 4)))) (sVal (sCst (.int 1442695040888963407)))))) bNil))) (sLoc 2))))))
def u1_L_draw : SS := (sSeq (sAsg (gSet 4) (sCst (.int 0)))
  (sSeq (sIfS (sTst (sOps gGt (b2 (sVal (sOps gLen (bCons (sVal (sOps gIdx (b2 (sLoc 0) (sVal (sCst (.int 0)))))) bNil))) (sVal (sCst (.int 0)))))) (sAsg (gSet 4) (sOps gIdx (b2 (sVal (sOps gIdx (b2 (sLoc 0) (sVal (sCst (.int 0)))))) (sVal (sOps gMod (b2 (sVal (sOps gInt (bCons (sVal (sOps gIdx (b2 (sLoc 0) (sVal (sCst (.int 1)))))) bNil))) (sVal (sOps gLen (bCons (sVal (sOps gIdx (b2 (sLoc 0) (sVal (sCst (.int 0)))))) bNil))))))))) sNx)
  (sSeq (sIfS (tOrS (sTst (sOps gGe (b2 (sVal (sOps gIdx (b2 (sLoc 0) (sVal (sCst (.int 1)))))) (sVal (sOps gLen (bCons (sVal (sOps gIdx (b2 (sLoc 0) (sVal (sCst (.int 0)))))) bNil)))))) (sTst (sOps gLt (b2 (sLoc 4) (sVal (sOps gPow (b2 (sVal (sCst (.int 10))) (sVal (sCst (.int 18)))))))))) u0_L_draw sNx)
  (sSeq (sAsg (gPut 0 (sVal (sCst (.int 1)))) (sOps gAdd (b2 (sVal (sOps gIdx (b2 (sLoc 0) (sVal (sCst (.int 1)))))) (sVal (sCst (.int 1))))))
  (sAsg (gPut 0 (sVal (sCst (.int 2)))) (sVar 4))))))
def b_L_draw : SS := (sSeq (sAsg (gSet 2) (sCst (.int 2305843009213693951)))
  (sSeq (sIfS (sTst (sOps gLt (b2 (sVal (sOps gIdx (b2 (sLoc 0) (sVal (sCst (.int 2)))))) (sLoc 1)))) u1_L_draw sNx)
  (sSeq (sAsg (gSet 3) (sOps gMod (b2 (sVal (sOps gInt (bCons (sVal (sOps gIdx (b2 (sLoc 0) (sVal (sCst (.int 2)))))) bNil))) (sLoc 1))))
  (sSeq (sAsg (gPut 0 (sVal (sCst (.int 2)))) (sOps gDiv (b2 (sVal (sOps gIdx (b2 (sLoc 0) (sVal (sCst (.int 2)))))) (sLoc 1))))
  (sRet (sVar 3))))))
def m_L_draw : List D → FR := runI 5 2 b_L_draw
abbrev st_L_of : Stmt := top 32
theorem sc_L_of : FnScope ["_law_tape", "_law_some"] ["_law_tape", "_law_some"] (defScope st_L_of) := ⟨rfl, rfl, rfl, by decide +kernel, rfl, by decide +kernel, by decide +kernel⟩
def b_L_of : SS := (sRet (sOps gIdx (b2 (sLoc 1) (sVal (sCallI 0 2 (m_L_draw) (sCons (sOps gLen (bCons (sLoc 1) bNil)) sNil))))))
def m_L_of : List D → FR := runI 2 2 b_L_of
abbrev st_L_key : Stmt := top 34
theorem sc_L_key : FnScope ["_law_tape"] ["_law_tape"] (defScope st_L_key) := ⟨rfl, rfl, rfl, by decide +kernel, rfl, by decide +kernel, by decide +kernel⟩
def b_L_key : SS := (sRet (sCallI 0 2 (m_L_of) (sCons (sLst (sCons (sCst (.str "x")) (sCons (sCst (.str "y")) (sCons (sCst (.str "z")) (sCons (sCst (.str "w")) (sCons (sCst (.str "add")) (sCons (sCst (.str "zzzzzzzz")) sNil))))))) sNil)))
def m_L_key : List D → FR := runI 1 1 b_L_key
abbrev st_L_near : Stmt := top 33
theorem sc_L_near : FnScope ["_law_tape", "_law_wide"] ["_law_tape", "_law_wide"] (defScope st_L_near) := ⟨rfl, rfl, rfl, by decide +kernel, rfl, by decide +kernel, by decide +kernel⟩
def b_L_near : SS := (sRet (sOps gSub (b2 (sVal (sCallI 0 2 (m_L_draw) (sCons (sOps gAdd (b2 (sVal (sOps gMul (b2 (sVal (sCst (.int 2))) (sLoc 1)))) (sVal (sCst (.int 1))))) sNil))) (sLoc 1))))
def m_L_near : List D → FR := runI 2 2 b_L_near
abbrev st_L_counter : Stmt := top 35
theorem sc_L_counter : FnScope ["_law_tape", "_law_limit", "_law_proper_so", "_law_found", "_law_part", "_law_wide"] ["_law_tape", "_law_limit", "_law_proper_so"] (defScope st_L_counter) := ⟨rfl, rfl, rfl, by decide +kernel, rfl, by decide +kernel, by decide +kernel⟩
def t0_L_counter : SS := (sSeq (sAsg (gSet 5) (sOps gIdx (b2 (sVal (sLst (sCons (sCst (.int 2)) (sCons (sCst (.int 5)) (sCons (sOps gPow (b2 (sVal (sCst (.int 10))) (sVal (sCst (.int 20))))) sNil))))) (sVal (sCallI 0 2 (m_L_draw) (sCons (sCst (.int 3)) sNil))))))
  (sAsg (gPut 3 (sVal (sCallI 0 1 (m_L_key) sNil))) (sIf (sTru (sLoc 2)) (sOps gAdd (b2 (sVal (sCst (.int 1))) (sVal (sCallI 0 2 (m_L_draw) (sCons (sVar 5) sNil))))) (sCallI 0 2 (m_L_near) (sCons (sVar 5) sNil)))))
def l0_L_counter : SS := sFor (iRng1' (sCons (sCallI 0 2 (m_L_draw) (sCons (sOps gAdd (b2 (sLoc 1) (sVal (sCst (.int 1))))) sNil)) sNil)) (gSet 4) t0_L_counter
def b_L_counter : SS := (sSeq (sAsg (gOwn 3) (sCst (.dct [] [])))
  (sSeq l0_L_counter
  (sRet (sOps gTupItems (b1 (sLoc 3))))))
def m_L_counter : List D → FR := runI 6 3 b_L_counter
abbrev st_T_counter : Stmt := (clsBody (top 26)).getD 2 (.Pass ⟨0, 0, 0, 0⟩)
theorem sc_T_counter : FnScope ["self"] ["self"] (defScope st_T_counter) := ⟨rfl, rfl, rfl, by decide +kernel, rfl, by decide +kernel, by decide +kernel⟩
def b_T_counter : SS := (sRet (sRow (sLoc 0)))
def m_T_counter : List D → FR := runP 1 1 b_T_counter
abbrev st_T_of : Stmt := (clsBody (top 26)).getD 1 (.Pass ⟨0, 0, 0, 0⟩)
theorem sc_T_of : FnScope ["cls", "names", "found", "name"] ["cls", "names"] (defScope st_T_of) := ⟨rfl, rfl, rfl, by decide +kernel, rfl, by decide +kernel, by decide +kernel⟩
def c0_T_of : SE := sComp [3] (iAny (sVar 1)) (gSet 3) tT1 (sCallP 1 (m_is_name) (sCons (sVar 3) sNil))
def t0_T_of : SS := (sAsg (gPut 2 (sLoc 3)) (sOps gAdd (b2 (sVal (sGet2 (sLoc 2) (sVar 3) (sCst (.int 0)))) (sVal (sCst (.int 1))))))
def l0_T_of : SS := sFor (iAny (sVar 1)) (gSet 3) t0_T_of
def b_T_of : SS := (sSeq (sIfS (tOrS (tNotS (sTru (sVal (sIsi ["list", "tuple"] (sLoc 1))))) (tNotS (sTru (sVal (sOps gAll (bCons (sVal c0_T_of) bNil)))))) (sRaise "NoName") sNx)
  (sSeq (sAsg (gOwn 2) (sCst (.dct [] [])))
  (sSeq l0_T_of
  (sRet (sMkV 0 m_T___init__ (sOps gTupItems (b1 (sLoc 2))))))))
def m_T_of : List D → FR := runP 4 2 b_T_of
abbrev st_T_most_common : Stmt := (clsBody (top 26)).getD 6 (.Pass ⟨0, 0, 0, 0⟩)
theorem sc_T_most_common : FnScope ["self", "many"] ["self", "many"] (defScope st_T_most_common) := ⟨rfl, rfl, rfl, by decide +kernel, rfl, by decide +kernel, by decide +kernel⟩
def b_T_most_common : SS := (sSeq (sIfS (tOrS (tNotS (sTru (sVal (sCallP 1 (m_is_integer) (sCons (sVar 1) sNil))))) (sTst (sOps gLt (b2 (sLoc 1) (sVal (sCst (.int 0))))))) (sRaise "NoNumber") sNx)
  sNever)
def m_T_most_common : List D → FR := runP 2 2 b_T_most_common
abbrev st_all_at_most : Stmt := top 23
theorem sc_all_at_most : FnScope ["one", "other", "counts", "others", "key"] ["one", "other"] (defScope st_all_at_most) := ⟨rfl, rfl, rfl, by decide +kernel, rfl, by decide +kernel, by decide +kernel⟩
def c0_all_at_most : SE := sComp [4] (iAny (sCallS (m_keys_of) (sCons (sVar 0) (sCons (sVar 1) sNil)))) (gSet 4) tT1 (sOps gLe (b2 (sVal (sGet2 (sLoc 2) (sVar 4) (sCst (.int 0)))) (sVal (sGet2 (sLoc 3) (sVar 4) (sCst (.int 0))))))
def b_all_at_most : SS := (sSeq (sAsg (gTup' 2 (gC (gSet 2) (gC (gSet 3) gN))) (sTup (sCons (sOps gDict (bCons (sLoc 0) bNil)) (sCons (sOps gDict (bCons (sLoc 1) bNil)) sNil))))
  (sRet (sOps gAll (bCons (sVal c0_all_at_most) bNil))))
def m_all_at_most : List D → FR := runP 5 2 b_all_at_most
abbrev st_T_within : Stmt := (clsBody (top 26)).getD 27 (.Pass ⟨0, 0, 0, 0⟩)
theorem sc_T_within : FnScope ["self", "other"] ["self", "other"] (defScope st_T_within) := ⟨rfl, rfl, rfl, by decide +kernel, rfl, by decide +kernel, by decide +kernel⟩
def b_T_within : SS := (sRet (sCallP 2 (m_all_at_most) (sCons (sRow (sLoc 0)) (sCons (sCallP 1 (m_looked) (sCons (sVar 1) sNil)) sNil))))
def m_T_within : List D → FR := runP 2 2 b_T_within
abbrev st_L_odd_refused : Stmt := top 44
theorem sc_L_odd_refused : FnScope ["_law_first", "_law_one", "_law_second", "_law_odd"] ["_law_first", "_law_one", "_law_second"] (defScope st_L_odd_refused) := ⟨rfl, rfl, rfl, by decide +kernel, rfl, by decide +kernel, by decide +kernel⟩
def e0_L_odd_refused : SE := (sCmT 2 m_T_of (sCons (sVar 3) sNil))
def t0_L_odd_refused : SS := (sIfS (sTst (sOps gNe (b2 (sVal (sTried wdX e0_L_odd_refused)) (sVal (sCst (.str "name")))))) (sRet (sCst (.bl false))) sNx)
def l0_L_odd_refused : SS := sFor (iAny (sLst (sCons (sCst .non) (sCons (sCst (.str "xy")) (sCons (sLst (sCons (sCst (.str "A")) sNil)) (sCons (sLst (sCons (sCst (.int 5)) sNil)) (sCons (sLst (sCons (sLst (sCons (sCst (.str "x")) sNil)) sNil)) sNil))))))) (gSet 3) t0_L_odd_refused
def e1_L_odd_refused : SE := (sMkT m_T___init__ (sVar 3))
def t1_L_odd_refused : SS := (sIfS (sTst (sOps gNe (b2 (sVal (sTried wdX e1_L_odd_refused)) (sVal (sCst (.str "counter")))))) (sRet (sCst (.bl false))) sNx)
def l1_L_odd_refused : SS := sFor (iAny (sLst (sCons (sCst .non) (sCons (sCst (.int 5)) (sCons (sTup (sCons (sTup (sCons (sCst (.str "x")) (sCons (sCst .non) sNil))) sNil)) (sCons (sOps gList (bCons (sLoc 1) bNil)) (sCons (sVar 2) sNil))))))) (gSet 3) t1_L_odd_refused
def e2_L_odd_refused : SE := (sMethP 2 m_T_most_common (sVar 0) (sCons (sVar 3) sNil))
def t2_L_odd_refused : SS := (sIfS (sTst (sOps gNe (b2 (sVal (sTried wdX e2_L_odd_refused)) (sVal (sCst (.str "number")))))) (sRet (sCst (.bl false))) sNx)
def l2_L_odd_refused : SS := sFor (iAny (sLst (sCons (sOps gNeg (b1 (sVal (sCst (.int 1))))) (sCons (sCst .non) (sCons (sCst (.bl true)) (sCons (sCst (.str "1")) sNil)))))) (gSet 3) t2_L_odd_refused
def e3_L_odd_refused : SE := (sMethP 2 m_T_within (sVar 0) (sCons (sVar 1) sNil))
def b_L_odd_refused : SS := (sSeq l0_L_odd_refused
  (sSeq l1_L_odd_refused
  (sSeq l2_L_odd_refused
  (sRet (sAnd (sOps gEq (b2 (sVal (sTried wdX e3_L_odd_refused)) (sVal (sCst (.str "counter"))))) (sAnd (sNot (sVal (sOps (gEqT m_T___eq__) (b2 (sLoc 0) (sVal (sCst (.int 5))))))) (sNot (sVal (sOps (gEqT m_T___eq__) (b2 (sLoc 0) (sLoc 1)))))))))))
def m_L_odd_refused : List D → FR := runP 4 3 b_L_odd_refused
abbrev st_L_count : Stmt := top 37
theorem sc_L_count : FnScope ["_law_way", "_law_one", "_law_other", "_law_found", "_law_first", "_law_second"] ["_law_way", "_law_one", "_law_other"] (defScope st_L_count) := ⟨rfl, rfl, rfl, by decide +kernel, rfl, by decide +kernel, by decide +kernel⟩
def b_L_count : SS := (sSeq (sIfS (tAndS (sTst (sOps gIs (b2 (sLoc 1) (sVal (sCst .non))))) (sTst (sOps gIs (b2 (sLoc 2) (sVal (sCst .non)))))) (sRet (sCst .non)) sNx)
  (sSeq (sPar 4 5 (sCons (sIf (sTst (sOps gIs (b2 (sLoc 1) (sVal (sCst .non))))) (sCst (.int 0)) (sVar 1)) (sCons (sIf (sTst (sOps gIs (b2 (sLoc 2) (sVal (sCst .non))))) (sCst (.int 0)) (sVar 2)) sNil)))
  (sSeq (sIfS (tOrS (sTst (sOps gEq (b2 (sLoc 0) (sVal (sCst (.str "update")))))) (sTst (sOps gEq (b2 (sLoc 0) (sVal (sCst (.str "subtract"))))))) (sRet (sIf (sTst (sOps gEq (b2 (sLoc 0) (sVal (sCst (.str "update")))))) (sOps gAdd (b2 (sLoc 4) (sLoc 5))) (sOps gSub (b2 (sLoc 4) (sLoc 5))))) sNx)
  (sSeq (sAsg (gOwn 3) (sDisp [((sCst (.str "add")), (sOps gAdd (b2 (sLoc 4) (sLoc 5)))), ((sCst (.str "less")), (sOps gSub (b2 (sLoc 4) (sLoc 5))))]))
  (sSeq (sAsg (gTup' 2 (gC (gPut 3 (sVal (sCst (.str "most")))) (gC (gPut 3 (sVal (sCst (.str "least")))) gN))) (sTup (sCons (sOps gMax2 (bCons (sVal (sOps gInt (bCons (sLoc 4) bNil))) (bCons (sVal (sOps gInt (bCons (sLoc 5) bNil))) bNil))) (sCons (sOps gMin2 (bCons (sVal (sOps gInt (bCons (sLoc 4) bNil))) (bCons (sVal (sOps gInt (bCons (sLoc 5) bNil))) bNil))) sNil))))
  (sRet (sIf (sTst (sOps gGt (b2 (sVal (sOps gIdx (b2 (sLoc 3) (sLoc 0)))) (sVal (sCst (.int 0)))))) (sOps gIdx (b2 (sLoc 3) (sLoc 0))) (sCst .non))))))))
def m_L_count : List D → FR := runP 6 3 b_L_count
abbrev st_L_joined : Stmt := top 38
theorem sc_L_joined : FnScope ["_law_way", "_law_one", "_law_other", "_law_found", "_law_first", "_law_second", "_law_key_here", "_law_count_here", "_law_pair"] ["_law_way", "_law_one", "_law_other"] (defScope st_L_joined) := ⟨rfl, rfl, rfl, by decide +kernel, rfl, by decide +kernel, by decide +kernel⟩
def c0_L_joined : SE := sComp [8] (iAny (sVar 2)) (gSet 8) (sTst (sOps gNotIn (b2 (sVal (sOps gIdx (b2 (sLoc 8) (sVal (sCst (.int 0)))))) (sLoc 4)))) (sVar 8)
def t0_L_joined : SS := (sSeq (sAsg (gSet 7) (sCallP 3 (m_L_count) (sCons (sVar 0) (sCons (sGet1 (sLoc 4) (sVar 6)) (sCons (sGet1 (sLoc 5) (sVar 6)) sNil)))))
  (sIfS (sTst (sOps gIsNot (b2 (sLoc 7) (sVal (sCst .non))))) (sExpr (sMut 3 mAppend (sCons (sTup (sCons (sVar 6) (sCons (sVar 7) sNil))) sNil))) sNx))
def l0_L_joined : SS := sFor (iAny (sOps gAdd (b2 (sLoc 1) (sVal (sOps gTuple (bCons (sVal c0_L_joined) bNil)))))) (gTup' 2 (gC (gSet 6) (gC (gSet 7) gN))) t0_L_joined
def b_L_joined : SS := (sSeq (sAsgF 3 3 (sLst sNil) (sCons (sOps gDict (bCons (sLoc 1) bNil)) (sCons (sOps gDict (bCons (sLoc 2) bNil)) sNil)) (gC (gSet 4) (gC (gSet 5) gN)))
  (sSeq l0_L_joined
  (sRet (sOps gTuple (bCons (sLoc 3) bNil)))))
def m_L_joined : List D → FR := runP 9 3 b_L_joined
abbrev st_turned : Stmt := top 20
theorem sc_turned : FnScope ["way", "counter", "sign", "key", "count"] ["way", "counter"] (defScope st_turned) := ⟨rfl, rfl, rfl, by decide +kernel, rfl, by decide +kernel, by decide +kernel⟩
def c0_turned : SE := sComp [3, 4] (iAny (sVar 1)) (gTup' 2 (gC (gSet 3) (gC (gSet 4) gN))) (sTst (sOps gGt (b2 (sVal (sOps gMul (b2 (sLoc 2) (sLoc 4)))) (sVal (sCst (.int 0)))))) (sTup (sCons (sVar 3) (sCons (sOps gMul (b2 (sLoc 2) (sLoc 4))) sNil)))
def b_turned : SS := (sSeq (sAsg (gSet 2) (sIf (sTst (sOps gEq (b2 (sLoc 0) (sVal (sCst (.str "plus")))))) (sCst (.int 1)) (sOps gNeg (b1 (sVal (sCst (.int 1)))))))
  (sRet (sOps gTuple (bCons (sVal c0_turned) bNil))))
def m_turned : List D → FR := runP 5 2 b_turned
abbrev st_T___pos__ : Stmt := (clsBody (top 26)).getD 21 (.Pass ⟨0, 0, 0, 0⟩)
theorem sc_T___pos__ : FnScope ["self"] ["self"] (defScope st_T___pos__) := ⟨rfl, rfl, rfl, by decide +kernel, rfl, by decide +kernel, by decide +kernel⟩
def b_T___pos__ : SS := sNx
def e_T___pos__ : SE := (sMkT m_T___init__ (sCallP 2 (m_turned) (sCons (sCst (.str "plus")) (sCons (sRow (sLoc 0)) sNil))))
def m_T___pos__ : List D → Option D := runNew 1 1 b_T___pos__ e_T___pos__
abbrev st_L_single : Stmt := top 39
theorem sc_L_single : FnScope ["_law_way", "_law_counter_here", "_law_sign", "_law_key_here", "_law_count_here"] ["_law_way", "_law_counter_here"] (defScope st_L_single) := ⟨rfl, rfl, rfl, by decide +kernel, rfl, by decide +kernel, by decide +kernel⟩
def c0_L_single : SE := sComp [3, 4] (iAny (sVar 1)) (gTup' 2 (gC (gSet 3) (gC (gSet 4) gN))) (sTst (sOps gGt (b2 (sVal (sOps gMul (b2 (sLoc 2) (sLoc 4)))) (sVal (sCst (.int 0)))))) (sTup (sCons (sVar 3) (sCons (sOps gMul (b2 (sLoc 2) (sLoc 4))) sNil)))
def b_L_single : SS := (sSeq (sAsg (gSet 2) (sIf (sTst (sOps gEq (b2 (sLoc 0) (sVal (sCst (.str "plus")))))) (sCst (.int 1)) (sOps gNeg (b1 (sVal (sCst (.int 1)))))))
  (sRet (sOps gTuple (bCons (sVal c0_L_single) bNil))))
def m_L_single : List D → FR := runP 5 2 b_L_single
abbrev st_T___neg__ : Stmt := (clsBody (top 26)).getD 22 (.Pass ⟨0, 0, 0, 0⟩)
theorem sc_T___neg__ : FnScope ["self"] ["self"] (defScope st_T___neg__) := ⟨rfl, rfl, rfl, by decide +kernel, rfl, by decide +kernel, by decide +kernel⟩
def b_T___neg__ : SS := sNx
def e_T___neg__ : SE := (sMkT m_T___init__ (sCallP 2 (m_turned) (sCons (sCst (.str "minus")) (sCons (sRow (sLoc 0)) sNil))))
def m_T___neg__ : List D → Option D := runNew 1 1 b_T___neg__ e_T___neg__
abbrev st_L_equal : Stmt := top 40
theorem sc_L_equal : FnScope ["_law_one", "_law_other", "_law_keys", "_law_first", "_law_second", "_law_key_here"] ["_law_one", "_law_other"] (defScope st_L_equal) := ⟨rfl, rfl, rfl, by decide +kernel, rfl, by decide +kernel, by decide +kernel⟩
def c0_L_equal : SE := sComp [5] (iAny (sVar 2)) (gSet 5) (sTst (sOps gNe (b2 (sVal (sGet2 (sLoc 3) (sVar 5) (sCst (.int 0)))) (sVal (sGet2 (sLoc 4) (sVar 5) (sCst (.int 0))))))) (sVar 5)
def b_L_equal : SS := (sSeq (sAsg (gTup' 2 (gC (gSet 3) (gC (gSet 4) gN))) (sTup (sCons (sOps gDict (bCons (sLoc 0) bNil)) (sCons (sOps gDict (bCons (sLoc 1) bNil)) sNil))))
  (sSeq (sAsg (gSet 2) (sOps gAdd (b2 (sVal (sOps gList (bCons (sLoc 3) bNil))) (sVal (sOps gList (bCons (sLoc 4) bNil))))))
  (sRet (sOps gEq (b2 (sVal c0_L_equal) (sVal (sLst sNil)))))))
def m_L_equal : List D → FR := runP 6 2 b_L_equal
abbrev st_L_at_most : Stmt := top 41
theorem sc_L_at_most : FnScope ["_law_one", "_law_other", "_law_first", "_law_second", "_law_key_here"] ["_law_one", "_law_other"] (defScope st_L_at_most) := ⟨rfl, rfl, rfl, by decide +kernel, rfl, by decide +kernel, by decide +kernel⟩
def c0_L_at_most : SE := sComp [4] (iAny (sOps gAdd (b2 (sVal (sOps gList (bCons (sLoc 2) bNil))) (sVal (sOps gList (bCons (sLoc 3) bNil)))))) (gSet 4) (sTst (sOps gGt (b2 (sVal (sGet2 (sLoc 2) (sVar 4) (sCst (.int 0)))) (sVal (sGet2 (sLoc 3) (sVar 4) (sCst (.int 0))))))) (sVar 4)
def b_L_at_most : SS := (sSeq (sAsg (gTup' 2 (gC (gSet 2) (gC (gSet 3) gN))) (sTup (sCons (sOps gDict (bCons (sLoc 0) bNil)) (sCons (sOps gDict (bCons (sLoc 1) bNil)) sNil))))
  (sRet (sOps gEq (b2 (sVal c0_L_at_most) (sVal (sLst sNil))))))
def m_L_at_most : List D → FR := runP 5 2 b_L_at_most
abbrev st_L_ways : Stmt := top 36
theorem sc_L_ways : FnScope [] [] (defScope st_L_ways) := ⟨rfl, rfl, rfl, by decide +kernel, rfl, by decide +kernel, by decide +kernel⟩
def b_L_ways : SS := (sRet (sLst (sCons (sCst (.str "add")) (sCons (sCst (.str "less")) (sCons (sCst (.str "most")) (sCons (sCst (.str "least")) (sCons (sCst (.str "update")) (sCons (sCst (.str "subtract")) sNil))))))))
def m_L_ways : List D → FR := runP 0 0 b_L_ways
abbrev st_law : Stmt := top 45
theorem sc_law : FnScope ["_law_script", "_law_tape", "_law_turn", "_law_made", "_law_third", "_law_keys", "_law_due", "_law_key_here", "_law_one", "_law_other", "_law_first", "_law_second", "_law_part", "_law_tally", "_law_way"] ["_law_script"] (defScope st_law) := ⟨rfl, rfl, rfl, by decide +kernel, rfl, by decide +kernel, by decide +kernel⟩
def c0_law : SE := sComp [13] (iAny (sVar 3)) (gSet 13) tT1 (sProp m_T_counter (sVar 13))
def c1_law : SE := sComp [14] (iAny (sSlice (sVal (sCallP 0 (m_L_ways) sNil)) sPn (sPe (sCst (.int 4))))) (gSet 14) tT1 (sCallP 3 (m_L_joined) (sCons (sVar 14) (sCons (sVar 8) (sCons (sVar 9) sNil))))
def q0_law : ST := (sTst (sOps gNe (b2 (sVal c0_law) (sVal c1_law))))
def q1_law : ST := (tOrS (sTst (sOps gNe (b2 (sVal (sProp m_T_counter (sUnT 10 m_T___pos__))) (sVal (sCallP 2 (m_L_single) (sCons (sCst (.str "plus")) (sCons (sVar 8) sNil))))))) (sTst (sOps gNe (b2 (sVal (sProp m_T_counter (sUnT 10 m_T___neg__))) (sVal (sCallP 2 (m_L_single) (sCons (sCst (.str "minus")) (sCons (sVar 8) sNil))))))))
def b0_law : SS := sMade 3 (sBinT 10 m_T___add__ (sVar 11)) (sCons (sBinT 10 m_T___sub__ (sVar 11)) (sCons (sBinT 10 m_T___or__ (sVar 11)) (sCons (sBinT 10 m_T___and__ (sVar 11)) sNil))) q0_law q1_law (.str "x") (.int 77) m_T___setitem__
def q2_law : ST := (tOrS (sTst (sOps gNe (b2 (sVal (sProp m_T_counter (sVar 10))) (sVal (sCallP 3 (m_L_joined) (sCons (sCst (.str "add")) (sCons (sVar 8) (sCons (sVar 9) sNil)))))))) (tNotS (sTst (sOps (gEqT m_T___eq__) (b2 (sLoc 10) (sLoc 4))))))
def b1_law : SS := sThird 10 4 (sVar 11) q2_law m_T___iadd__
def c2_law : SE := sComp [12] (iRng1' (sCons (sCallI 1 2 (m_L_draw) (sCons (sCst (.int 9)) sNil)) sNil)) (gSet 12) tT1 (sCallI 1 1 (m_L_key) sNil)
def t0_law : SS := (sAsg (gPut 6 (sLoc 7)) (sOps gAdd (b2 (sVal (sGet2 (sLoc 6) (sVar 7) (sCst (.int 0)))) (sVal (sCst (.int 1))))))
def l0_law : SS := sFor (iAny (sVar 5)) (gSet 7) t0_law
def t1_law : SS := (sSeq (sAsg (gTup' 2 (gC (gSet 8) (gC (gSet 9) gN))) (sTup (sCons (sCallI 1 3 (m_L_counter) (sCons (sCst (.int 5)) (sCons (sCst (.bl false)) sNil))) (sCons (sCallI 1 3 (m_L_counter) (sCons (sCst (.int 5)) (sCons (sCst (.bl false)) sNil))) sNil))))
  (sSeq (sParF 10 11 (sMkT m_T___init__ (sVar 8)) (sMkT m_T___init__ (sVar 9)))
  (sSeq b0_law
  (sSeq (sIfS (tOrS (sTst (sOps gNe (b2 (sVal (sLendT 10 (sProp m_T_counter (sVar 10)))) (sLoc 8)))) (sTst (sOps gNe (b2 (sVal (sProp m_T_counter (sVar 11))) (sLoc 9))))) (sRet (sCst (.bl false))) sNx)
  (sSeq (sIfS (tOrS (sTst (sOps gNe (b2 (sVal (sOps (gEqT m_T___eq__) (b2 (sLoc 10) (sLoc 11)))) (sVal (sCallP 2 (m_L_equal) (sCons (sVar 8) (sCons (sVar 9) sNil))))))) (sTst (sOps gNe (b2 (sVal (sLendT 10 (sMethP 2 m_T_within (sVar 10) (sCons (sVar 11) sNil)))) (sVal (sCallP 2 (m_L_at_most) (sCons (sVar 8) (sCons (sVar 9) sNil)))))))) (sRet (sCst (.bl false))) sNx)
  (sSeq b1_law
  (sSeq (sAsg (gOwn 5) c2_law)
  (sSeq (sAsg (gOwn 6) (sCst (.dct [] [])))
  (sSeq l0_law
  (sSeq (sIfS (tOrS (sTst (sOps gNe (b2 (sVal (sProp m_T_counter (sCmT 2 m_T_of (sCons (sVar 5) sNil)))) (sVal (sOps gTupItems (b1 (sLoc 6))))))) (sTst (sOps gNe (b2 (sVal (sProp m_T_counter (sCmT 2 m_T_of (sCons (sOps gTuple (bCons (sLoc 5) bNil)) sNil)))) (sVal (sOps gTupItems (b1 (sLoc 6)))))))) (sRet (sCst (.bl false))) sNx)
  (sIfS (tNotS (sTru (sVal (sLendT 10 (sCallP 3 (m_L_odd_refused) (sCons (sVar 10) (sCons (sVar 8) (sCons (sVar 11) sNil)))))))) (sRet (sCst (.bl false))) sNx)))))))))))
def l1_law : SS := sFor (iRng1' (sCons (sCst (.int 14)) sNil)) (gSet 2) t1_law
def b_law : SS := (sSeq (sAsg (gOwn 1) (sLst (sCons (sOps gList (bCons (sLoc 0) bNil)) (sCons (sCst (.int 0)) (sCons (sCst (.int 0)) sNil)))))
  (sSeq l1_law
  (sRet (sAnd (sOps (gEqT m_T___eq__) (b2 (sVal (sMkT m_T___init__ (sCst .etup))) (sVal (sMkT m_T___init__ (sTup (sCons (sTup (sCons (sCst (.str "x")) (sCons (sCst (.int 0)) sNil))) sNil)))))) (sOps (gNotT m_T___bool__) (b1 (sVal (sMkT m_T___init__ (sCst .etup)))))))))
def m_law : List D → FR := runP 15 1 b_law
abbrev st_L_tried : Stmt := top 42
theorem sc_L_tried : FnScope ["_law_call", "_law_e"] ["_law_call"] (defScope st_L_tried) := ⟨rfl, rfl, rfl, by decide +kernel, rfl, by decide +kernel, by decide +kernel⟩
abbrev st_L_word : Stmt := top 43
theorem sc_L_word : FnScope ["_law_e", "_law_some", "_law_named", "_law_word_here", "_law_there"] ["_law_e"] (defScope st_L_word) := ⟨rfl, rfl, rfl, by decide +kernel, rfl, by decide +kernel, by decide +kernel⟩
def c0_L_word : SE := sComp [3, 4] (iZipL (sCons (sVar 2) (sCons (sVar 1) sNil))) (gTupA 2 (gC (gSet 3) (gC (gSet 4) gN))) (sTru (sLoc 4)) (sVar 3)
def b_L_word (a : Addr) (x0 x1 x2 x3 x4 x5 x6 x7 x8 x9 : Bool) : SS := (sSeq (sAsg (gOwn 1) (sLst (sCons (sIsE 0 a x0) (sCons (sIsE 0 a x1) (sCons (sIsE 0 a x2) (sCons (sIsE 0 a x3) sNil))))))
  (sSeq (sAsg (gSet 1) (sOps gAdd (b2 (sLoc 1) (sVal (sLst (sCons (sIsE 0 a x4) (sCons (sIsE 0 a x5) (sCons (sIsE 0 a x6) (sCons (sIsE 0 a x7) sNil)))))))))
  (sSeq (sAsg (gSet 1) (sOps gAdd (b2 (sLoc 1) (sVal (sLst (sCons (sIsE 0 a x8) (sCons (sIsE 0 a x9) sNil)))))))
  (sSeq (sAsg (gOwn 2) (sLst (sCons (sCst (.str "counter")) (sCons (sCst (.str "counters")) (sCons (sCst (.str "expression")) (sCons (sCst (.str "script")) (sCons (sCst (.str "system")) (sCons (sCst (.str "name")) (sCons (sCst (.str "number")) (sCons (sCst (.str "way")) (sCons (sCst (.str "text")) (sCons (sCst (.str "many")) sNil))))))))))))
  (sRet (sJoin (sCst (.str "")) c0_L_word))))))
/-- of which of the classes it is one -/
structure BsK (K : PySem.W.Frag) (C c0 c1 c2 c3 c4 c5 c6 c7 c8 c9 : Addr) (x0 x1 x2 x3 x4 x5 x6 x7 x8 x9 : Bool) : Prop where
  k0 : PySem.W.kitOne K (.ref C) (.ref c0) = some x0
  k1 : PySem.W.kitOne K (.ref C) (.ref c1) = some x1
  k2 : PySem.W.kitOne K (.ref C) (.ref c2) = some x2
  k3 : PySem.W.kitOne K (.ref C) (.ref c3) = some x3
  k4 : PySem.W.kitOne K (.ref C) (.ref c4) = some x4
  k5 : PySem.W.kitOne K (.ref C) (.ref c5) = some x5
  k6 : PySem.W.kitOne K (.ref C) (.ref c6) = some x6
  k7 : PySem.W.kitOne K (.ref C) (.ref c7) = some x7
  k8 : PySem.W.kitOne K (.ref C) (.ref c8) = some x8
  k9 : PySem.W.kitOne K (.ref C) (.ref c9) = some x9
def GoodW (K : PySem.W.Frag) : Addr → Str → Prop := fun C wd => ExcC K C ∧ ∃ x0 x1 x2 x3 x4 x5 x6 x7 x8 x9, BsK K C (exA K "NoCounter") (exA K "NoCounters") (exA K "NoExpression") (exA K "NoScript") (exA K "NoSystem") (exA K "NoName") (exA K "NoNumber") (exA K "NoWay") (exA K "NoText") (exA K "TooMany") x0 x1 x2 x3 x4 x5 x6 x7 x8 x9 ∧ ∀ a, ∃ ρ', b_L_word a x0 x1 x2 x3 x4 x5 x6 x7 x8 x9 (.fro (.exn a) :: List.replicate 4 .no) = .ok (.rt (.str wd)) ρ'
structure Tx (K : PySem.W.Frag) (mg : Str → Option Value) : Prop where
  n_NotImplemented : mg "NotImplemented" = none
  n_all : mg "all" = none
  n_bool : mg "bool" = none
  n_dict : mg "dict" = none
  n_int : mg "int" = none
  n_isinstance : mg "isinstance" = none
  n_len : mg "len" = none
  n_list : mg "list" = none
  n_max : mg "max" = none
  n_min : mg "min" = none
  n_range : mg "range" = none
  n_str : mg "str" = none
  n_tuple : mg "tuple" = none
  n_zip : mg "zip" = none
  c_LETTERS : ∃ u, mg "LETTERS" = some u ∧ RelV (.str "abcdefghijklmnopqrstuvwxyz") u
  m_NoCounter : mg "NoCounter" = some (.ref (exA K "NoCounter"))
  m_NoCounters : mg "NoCounters" = some (.ref (exA K "NoCounters"))
  m_NoExpression : mg "NoExpression" = some (.ref (exA K "NoExpression"))
  m_NoScript : mg "NoScript" = some (.ref (exA K "NoScript"))
  m_NoSystem : mg "NoSystem" = some (.ref (exA K "NoSystem"))
  m_NoName : mg "NoName" = some (.ref (exA K "NoName"))
  m_NoNumber : mg "NoNumber" = some (.ref (exA K "NoNumber"))
  m_NoWay : mg "NoWay" = some (.ref (exA K "NoWay"))
  m_NoText : mg "NoText" = some (.ref (exA K "NoText"))
  m_TooMany : mg "TooMany" = some (.ref (exA K "TooMany"))
  m_CountError : mg "CountError" = some (.ref (exA K "CountError"))
  d_NoCounter : ExcD K (exA K "NoCounter") (exA K "CountError")
  b_NoCounter : BsK K (exA K "NoCounter") (exA K "NoCounter") (exA K "NoCounters") (exA K "NoExpression") (exA K "NoScript") (exA K "NoSystem") (exA K "NoName") (exA K "NoNumber") (exA K "NoWay") (exA K "NoText") (exA K "TooMany") true false false false false false false false false false
  d_NoName : ExcD K (exA K "NoName") (exA K "CountError")
  b_NoName : BsK K (exA K "NoName") (exA K "NoCounter") (exA K "NoCounters") (exA K "NoExpression") (exA K "NoScript") (exA K "NoSystem") (exA K "NoName") (exA K "NoNumber") (exA K "NoWay") (exA K "NoText") (exA K "TooMany") false false false false false true false false false false
  d_NoNumber : ExcD K (exA K "NoNumber") (exA K "CountError")
  b_NoNumber : BsK K (exA K "NoNumber") (exA K "NoCounter") (exA K "NoCounters") (exA K "NoExpression") (exA K "NoScript") (exA K "NoSystem") (exA K "NoName") (exA K "NoNumber") (exA K "NoWay") (exA K "NoText") (exA K "TooMany") false false false false false false true false false false
  tC : TalC K
  tI : TalI K
  m_Tally : mg "Tally" = some (.ref (TC K))
  tE : TalE K
  tU : PySem.W.kitOne K (.ref (TC K)) (.type "tuple") = some false
theorem Tx.k_NoCounter {K : PySem.W.Frag} {mg : Str → Option Value} (T : Tx K mg) : ExcK K mg "NoCounter" := T.d_NoCounter.kk T.m_NoCounter
theorem Tx.k_NoName {K : PySem.W.Frag} {mg : Str → Option Value} (T : Tx K mg) : ExcK K mg "NoName" := T.d_NoName.kk T.m_NoName
theorem Tx.k_NoNumber {K : PySem.W.Frag} {mg : Str → Option Value} (T : Tx K mg) : ExcK K mg "NoNumber" := T.d_NoNumber.kk T.m_NoNumber
section
variable {P : Program} {w : World} [HW] [TW w] {K : PySem.W.Frag} {mg : Str → Option Value} {base : Heap}
set_option maxRecDepth 100000 in
theorem w_L_word (T : Tx K mg) (F : Fn K mg "_law_word" st_L_word ["_law_e"]) : WordAt P w K mg base 1 "_law_word" (GoodW K) :=
  word_at (k := 0) (m := 4) (ea := exA K) (W := fun _ _ _ _ => False) F sc_L_word rfl fun f cd A outer s H p C wd hot0 hr => fun {dx} hz ⟨cc, x0, x1, x2, x3, x4, x5, x6, x7, x8, x9, B, ev⟩ => by
    have hf : ∃ vs, p.2.data = .fields vs := let ⟨vs, e, _⟩ := hot0.2; ⟨vs, e⟩
    have hot : L2H.Hot1 (L2H.cxH CXf P w K mg base ["_law_e", "_law_some", "_law_named", "_law_word_here", "_law_there"] "_law_word" (defScope st_L_word) f cd A outer s H (fun _ _ _ => False) p).A p := hot0
    have hp : p ∈ (L2H.cxH CXf P w K mg base ["_law_e", "_law_some", "_law_named", "_law_word_here", "_law_there"] "_law_word" (defScope st_L_word) f cd A outer s H (fun _ _ _ => False) p).pn := List.mem_singleton.mpr rfl
    have hpp : (p.1, p.2) ∈ (L2H.cxH CXf P w K mg base ["_law_e", "_law_some", "_law_named", "_law_word_here", "_law_there"] "_law_word" (defScope st_L_word) f cd A outer s H (fun _ _ _ => False) p).pn := hp
    exact ⟨b_L_word p.1 x0 x1 x2 x3 x4 x5 x6 x7 x8 x9, (d_scons (d_setFN sc_L_word.nd rfl (by first | exact Or.inl rfl | exact Or.inr rfl) (d_lstF (d_cons (d_isE hpp cc hz hf rfl T.n_isinstance rfl T.m_NoCounter B.k0 (pv 0)) (d_cons (d_isE hpp cc hz hf rfl T.n_isinstance rfl T.m_NoCounters B.k1 (pv 0)) (d_cons (d_isE hpp cc hz hf rfl T.n_isinstance rfl T.m_NoExpression B.k2 (pv 0)) (d_cons (d_isE hpp cc hz hf rfl T.n_isinstance rfl T.m_NoScript B.k3 (pv 0)) d_nil))))))
      (d_scons (d_setN sc_L_word.nd rfl (by first | exact Or.inl rfl | exact Or.inr rfl) (d_add (d_loc (pv 1)) (d_val (d_fz (d_lstF (d_cons (d_isE hpp cc hz hf rfl T.n_isinstance rfl T.m_NoSystem B.k4 (pv 0)) (d_cons (d_isE hpp cc hz hf rfl T.n_isinstance rfl T.m_NoName B.k5 (pv 0)) (d_cons (d_isE hpp cc hz hf rfl T.n_isinstance rfl T.m_NoNumber B.k6 (pv 0)) (d_cons (d_isE hpp cc hz hf rfl T.n_isinstance rfl T.m_NoWay B.k7 (pv 0)) d_nil)))))))))
      (d_scons (d_setN sc_L_word.nd rfl (by first | exact Or.inl rfl | exact Or.inr rfl) (d_add (d_loc (pv 1)) (d_val (d_fz (d_lstF (d_cons (d_isE hpp cc hz hf rfl T.n_isinstance rfl T.m_NoText B.k8 (pv 0)) (d_cons (d_isE hpp cc hz hf rfl T.n_isinstance rfl T.m_TooMany B.k9 (pv 0)) d_nil)))))))
      (d_scons (d_setFN sc_L_word.nd rfl (by first | exact Or.inl rfl | exact Or.inr rfl) (d_lstF (d_cons d_str (d_cons d_str (d_cons d_str (d_cons d_str (d_cons d_str (d_cons d_str (d_cons d_str (d_cons d_str (d_cons d_str (d_cons d_str d_nil))))))))))))
      (d_sone (d_ret (d_join d_str (d_fz (d_compFB (own := [("_law_word_here", 3), ("_law_there", 4)]) hot hp sc_L_word.nd (d_iZipB (HotB.of hot hp) rfl T.n_zip (d_cons (d_var (pv 2)) (d_cons (d_var (pv 1)) d_nil))) (blkOk_by (N := ["_law_e", "_law_some", "_law_named", "_law_word_here", "_law_there"]) (sc := defScope st_L_word) (own := [("_law_word_here", 3), ("_law_there", 4)]) (by decide +kernel)) (fun _ _ _ _ _ hot => (d_gTupB hot (d_gC (d_gName sc_L_word.nd rfl (by first | exact Or.inl rfl | exact Or.inr rfl) (by first | exact Or.inl rfl | exact Or.inr rfl)) (d_gC (d_gName sc_L_word.nd rfl (by first | exact Or.inl rfl | exact Or.inr rfl) (by first | exact Or.inl rfl | exact Or.inr rfl)) d_gN)))) (fun _ _ _ _ _ => (pts_one (d_tru (d_loc (pv 4))))) (fun _ _ _ _ _ => (d_var (pv 3))) (by decide)))))))))), ev p.1⟩
theorem ev_NoCounter (a : Addr) : ∃ ρ', b_L_word a true false false false false false false false false false (.fro (.exn a) :: List.replicate 4 .no) = .ok (.rt (.str "counter")) ρ' := by
  refine ⟨?w, ?h⟩
  case h =>
    simp [b_L_word, sIsE, c0_L_word, List.replicate, sizeLine_eq, gAdd, ofO, zipL, pairUp, joinG, txtsD, gSet, gOwn, sComp, compGo, plainAt, wipeE, backE, noX, gC, gN, sTru, sLoc, Opd.get, Cell.data, D.truth, iZipL, gTupA, sCons, sVar, sNil]
    rw [if_pos (by decide)]
    rfl
theorem ev_NoName (a : Addr) : ∃ ρ', b_L_word a false false false false false true false false false false (.fro (.exn a) :: List.replicate 4 .no) = .ok (.rt (.str "name")) ρ' := by
  refine ⟨?w, ?h⟩
  case h =>
    simp [b_L_word, sIsE, c0_L_word, List.replicate, sizeLine_eq, gAdd, ofO, zipL, pairUp, joinG, txtsD, gSet, gOwn, sComp, compGo, plainAt, wipeE, backE, noX, gC, gN, sTru, sLoc, Opd.get, Cell.data, D.truth, iZipL, gTupA, sCons, sVar, sNil]
    rw [if_pos (by decide)]
    rfl
theorem ev_NoNumber (a : Addr) : ∃ ρ', b_L_word a false false false false false false true false false false (.fro (.exn a) :: List.replicate 4 .no) = .ok (.rt (.str "number")) ρ' := by
  refine ⟨?w, ?h⟩
  case h =>
    simp [b_L_word, sIsE, c0_L_word, List.replicate, sizeLine_eq, gAdd, ofO, zipL, pairUp, joinG, txtsD, gSet, gOwn, sComp, compGo, plainAt, wipeE, backE, noX, gC, gN, sTru, sLoc, Opd.get, Cell.data, D.truth, iZipL, gTupA, sCons, sVar, sNil]
    rw [if_pos (by decide)]
    rfl
theorem hwd_ok (T : Tx K mg) : ∀ x d, wdX x = some d → PySem.W.exmOne K (.ref (exA K x.cls)) (.ref (exA K "CountError")) = some true ∧ ∃ w, d = .str w ∧ GoodW K (exA K x.cls) w := fun ⟨c, a⟩ d h => by
  unfold wdX at h
  simp only at h
  by_cases h0 : c = "NoCounter"
  · subst h0; simp at h; subst h; exact ⟨T.d_NoCounter.exm, _, rfl, T.d_NoCounter.c, _, _, _, _, _, _, _, _, _, _, T.b_NoCounter, ev_NoCounter⟩
  rw [if_neg h0] at h
  by_cases h1 : c = "NoName"
  · subst h1; simp at h; subst h; exact ⟨T.d_NoName.exm, _, rfl, T.d_NoName.c, _, _, _, _, _, _, _, _, _, _, T.b_NoName, ev_NoName⟩
  rw [if_neg h1] at h
  by_cases h2 : c = "NoNumber"
  · subst h2; simp at h; subst h; exact ⟨T.d_NoNumber.exm, _, rfl, T.d_NoNumber.c, _, _, _, _, _, _, _, _, _, _, T.b_NoNumber, ev_NoNumber⟩
  rw [if_neg h2] at h
  cases h
theorem w_one_count (T : Tx K mg) (F : Fn K mg "one_count" st_one_count ["way", "count", "other"]) : Cal P w K mg base "one_count" 1 (spP ⟨K, ⟨exA K, []⟩⟩ 3 m_one_count) :=
  cal_P (exA K) F sc_one_count fun f cdv A outer s H E hr => by
    have hu := at_def (P := P) (w := w) (K := K) (mg := mg) (base := base) (f := f) (cdv := cdv) (A := A) (outer := outer) (s := s) (H := H) (E := E) sc_one_count hr
    exact (d_scons (d_ifS (PW.pt (d_wand (d_tcmp op_isA psem_is (d_loc (pv 1)) (d_val d_non) (nomark _)) (d_wand1 (d_tcmp op_isA psem_is (d_loc (pv 2)) (d_val d_non) (nomark _))))) (d_sone (d_ret d_non)) d_snil)
      (d_scons (d_ifS (PW.pt (d_wor (d_tcmp (op_eqD hu.un) psem_eq (d_loc (pv 0)) (d_val d_str) (nomark _)) (d_wor1 (d_tcmp (op_eqD hu.un) psem_eq (d_loc (pv 0)) (d_val d_str) (nomark _))))) (d_scons (d_set hu rfl (by first | exact Or.inl rfl | exact Or.inr rfl) (d_if (d_tcmp (op_eqD hu.un) psem_eq (d_loc (pv 0)) (d_val d_str) (nomark _)) d_int (d_neg (d_val d_int))))
      (d_sone (d_ret (d_add (d_val (d_if (d_tcmp op_isA psem_is (d_loc (pv 1)) (d_val d_non) (nomark _)) d_int (d_var (pv 1)))) (d_val (d_mul (d_loc (pv 3)) (d_val (d_if (d_tcmp op_isA psem_is (d_loc (pv 2)) (d_val d_non) (nomark _)) d_int (d_var (pv 2)))))))))) d_snil)
      (d_scons (d_ifS (PW.pt (d_wand (d_tcmp (op_eqD hu.un) psem_eq (d_loc (pv 0)) (d_val d_str) (nomark _)) (d_wand1 (d_tcmp op_isA psem_is (d_loc (pv 1)) (d_val d_non) (nomark _))))) (d_sone (d_ret d_non)) d_snil)
      (d_scons (d_par hu rfl rfl (by decide) rfl rfl (d_cons (d_if (d_tcmp op_isA psem_is (d_loc (pv 1)) (d_val d_non) (nomark _)) d_int (d_var (pv 1))) (d_cons (d_if (d_tcmp op_isA psem_is (d_loc (pv 2)) (d_val d_non) (nomark _)) d_int (d_var (pv 2))) d_nil)) rfl)
      (d_scons (d_ifS (d_tcmp (op_eqD hu.un) psem_eq (d_loc (pv 0)) (d_val d_str) (nomark _)) (d_sone (d_set hu rfl (by first | exact Or.inl rfl | exact Or.inr rfl) (d_add (d_loc (pv 4)) (d_loc (pv 5))))) (d_sone (d_ifS (d_tcmp (op_eqD hu.un) psem_eq (d_loc (pv 0)) (d_val d_str) (nomark _)) (d_sone (d_set hu rfl (by first | exact Or.inl rfl | exact Or.inr rfl) (d_sub (d_loc (pv 4)) (d_loc (pv 5))))) (d_sone (d_set hu rfl (by first | exact Or.inl rfl | exact Or.inr rfl) (d_if (d_tcmp (op_eqD hu.un) psem_eq (d_loc (pv 0)) (d_val d_str) (nomark _)) (d_callB (call_max2 hu.calm) psem_max2 rfl T.n_max (d_bcons (d_loc (pv 4)) (d_bcons (d_loc (pv 5)) d_bnil))) (d_callB (call_min2 hu.calm) psem_min2 rfl T.n_min (d_bcons (d_loc (pv 4)) (d_bcons (d_loc (pv 5)) d_bnil)))))))))
      (d_sone (d_ret (d_if (d_tcmp op_gtA psem_ord (d_loc (pv 6)) (d_val d_int) (nomark _)) (d_var (pv 6)) d_non))))))))
theorem w_joined (T : Tx K mg) (F : Fn K mg "joined" st_joined ["way", "one", "other"]) (C_one_count : Cal P w K mg base "one_count" 1 (spP ⟨K, ⟨exA K, []⟩⟩ 3 (m_one_count))) : Cal P w K mg base "joined" 2 (spP ⟨K, ⟨exA K, []⟩⟩ 3 m_joined) :=
  cal_P (exA K) F sc_joined fun f cdv A outer s H E hr => by
    have hu := at_def (P := P) (w := w) (K := K) (mg := mg) (base := base) (f := f) (cdv := cdv) (A := A) (outer := outer) (s := s) (H := H) (E := E) sc_joined hr
    exact (d_scons (d_asg (d_tup (d_cons (d_fz (d_callTyF (call_dictT hu.calm) fsem_dict rfl T.n_dict (d_bcons (d_loc (pv 1)) d_bnil))) (d_cons (d_fz (d_callTyF (call_dictT hu.calm) fsem_dict rfl T.n_dict (d_bcons (d_loc (pv 2)) d_bnil))) d_nil))) (d_gTup hu.calm (d_gC (d_gName hu.nd rfl (by first | exact Or.inl rfl | exact Or.inr rfl) (by first | exact Or.inl rfl | exact Or.inr rfl)) (d_gC (d_gName hu.nd rfl (by first | exact Or.inl rfl | exact Or.inr rfl) (by first | exact Or.inl rfl | exact Or.inr rfl)) d_gN))))
      (d_scons (d_setF hu rfl (by first | exact Or.inl rfl | exact Or.inr rfl) (d_lstF d_nil))
      (d_scons (d_for hu (passes_of rfl) (d_iAny (d_add (d_val (d_fz (d_callTyF (call_listA hu.calm) fsem_list rfl T.n_list (d_bcons (d_loc (pv 5)) d_bnil)))) (d_val (d_fz (d_compF (own := [("key", 4)]) hu (d_iAny (d_var (pv 6))) (blkOk_by (N := ["way", "one", "other", "found", "key", "counts", "others", "count"]) (sc := defScope st_joined) (own := [("key", 4)]) (by decide +kernel)) (fun _ _ _ _ _ => (d_gName (at_blk hu).nd rfl (by first | exact Or.inl rfl | exact Or.inr rfl) (by first | exact Or.inl rfl | exact Or.inr rfl))) (fun _ _ _ _ _ => (pts_one (d_tcmp (op_notInA (at_blk hu).un) psem_notIn (d_loc (pv 4)) (d_loc (pv 5)) (by rfl)))) (fun _ _ _ _ _ => (d_var (pv 4))) (by decide)))))) (d_gName hu.nd rfl (by first | exact Or.inl rfl | exact Or.inr rfl) (by first | exact Or.inl rfl | exact Or.inr rfl)) (d_scons (d_set hu rfl (by first | exact Or.inl rfl | exact Or.inr rfl) (d_callP hu C_one_count (hr.mono (by omega)) rfl (d_cons (d_var (pv 0)) (d_cons (d_get1 hu (d_loc (pv 5)) (d_var (pv 4))) (d_cons (d_get1 hu (d_loc (pv 6)) (d_var (pv 4))) d_nil)))))
      (d_sone (d_ifS (d_tcmp op_isNotA psem_isNot (d_loc (pv 7)) (d_val d_non) (nomark _)) (d_sone (d_expr (d_mut PySem.F.slot_list_append PySem.F.type_list_append mt_append lmut_append (pv 3) (d_cons (d_tup (d_cons (d_var (pv 4)) (d_cons (d_var (pv 7)) d_nil))) d_nil)))) d_snil))))
      (d_sone (d_ret (d_callTy call_tupleZ psem_tuple rfl T.n_tuple (d_bcons (d_loc (pv 3)) d_bnil)))))))
theorem w_looked (T : Tx K mg) (F : Fn K mg "looked" st_looked ["other"]) : Cal P w K mg base "looked" 1 (spP ⟨K, ⟨exA K, []⟩⟩ 1 m_looked) :=
  cal_P (exA K) F sc_looked fun f cdv A outer s H E hr => by
    have hu := at_def (P := P) (w := w) (K := K) (mg := mg) (base := base) (f := f) (cdv := cdv) (A := A) (outer := outer) (s := s) (H := H) (E := E) sc_looked hr
    exact (d_scons (d_ifS (d_tnot (d_tru (d_val (d_isT T.tC T.tI T.m_Tally rfl T.n_isinstance rfl (d_loc (pv 0)))))) (d_sone (d_raise hu T.k_NoCounter rfl)) d_snil)
      (d_sone (d_ret (d_row T.tC (d_loc (pv 0))))))
theorem w_T___iadd__ (T : Tx K mg) (F : FnMF K "__iadd__" "Tally.__iadd__" st_T___iadd__ ["self", "other"]) (C_joined : Cal P w K mg base "joined" 2 (spP ⟨K, ⟨exA K, []⟩⟩ 3 (m_joined))) (C_looked : Cal P w K mg base "looked" 1 (spP ⟨K, ⟨exA K, []⟩⟩ 1 (m_looked))) : CalMF P w K mg base "__iadd__" 3 (spIS ⟨K, ⟨exA K, []⟩⟩ 2 m_T___iadd__) :=
  calMF_S (exA K) F sc_T___iadd__ (by decide) rfl rfl (.head _) (by decide) (by decide) fun f cdv A outer s H E hr => by
    have hu := at_def (P := P) (w := w) (K := K) (mg := mg) (base := base) (f := f) (cdv := cdv) (A := A) (outer := outer) (s := s) (H := H) (E := E) sc_T___iadd__ hr
    exact (d_rowSet (i := 0) T.tC (pv 0) (d_callP hu C_joined (hr.mono (by omega)) rfl (d_cons d_str (d_cons (d_row T.tC (d_loc (pv 0))) (d_cons (d_callP hu C_looked (hr.mono (by omega)) rfl (d_cons (d_var (pv 1)) d_nil)) d_nil)))))
theorem w_with_count (T : Tx K mg) (F : Fn K mg "with_count" st_with_count ["row", "key", "count"]) : Cal P w K mg base "with_count" 1 (spP ⟨K, ⟨exA K, []⟩⟩ 3 m_with_count) :=
  cal_P (exA K) F sc_with_count fun f cdv A outer s H E hr => by
    have hu := at_def (P := P) (w := w) (K := K) (mg := mg) (base := base) (f := f) (cdv := cdv) (A := A) (outer := outer) (s := s) (H := H) (E := E) sc_with_count hr
    exact (d_scons (d_ifS (d_tcmp (op_inA hu.un) psem_in (d_loc (pv 1)) (d_val (d_fz (d_compF (own := [("one", 3), ("other", 4)]) hu (d_iAny (d_var (pv 0))) (blkOk_by (N := ["row", "key", "count", "one", "other"]) (sc := defScope st_with_count) (own := [("one", 3), ("other", 4)]) (by decide +kernel)) (fun _ _ _ _ _ => (d_gTup (at_blk hu).calm (d_gC (d_gName (at_blk hu).nd rfl (by first | exact Or.inl rfl | exact Or.inr rfl) (by first | exact Or.inl rfl | exact Or.inr rfl)) (d_gC (d_gName (at_blk hu).nd rfl (by first | exact Or.inl rfl | exact Or.inr rfl) (by first | exact Or.inl rfl | exact Or.inr rfl)) d_gN)))) (fun _ _ _ _ _ => pts_nilT) (fun _ _ _ _ _ => (d_var (pv 3))) (by decide)))) (by rfl)) (d_sone (d_ret (d_callTy call_tupleZ psem_tuple rfl T.n_tuple (d_bcons (d_val (d_fz (d_compF (own := [("one", 3), ("other", 4)]) hu (d_iAny (d_var (pv 0))) (blkOk_by (N := ["row", "key", "count", "one", "other"]) (sc := defScope st_with_count) (own := [("one", 3), ("other", 4)]) (by decide +kernel)) (fun _ _ _ _ _ => (d_gTup (at_blk hu).calm (d_gC (d_gName (at_blk hu).nd rfl (by first | exact Or.inl rfl | exact Or.inr rfl) (by first | exact Or.inl rfl | exact Or.inr rfl)) (d_gC (d_gName (at_blk hu).nd rfl (by first | exact Or.inl rfl | exact Or.inr rfl) (by first | exact Or.inl rfl | exact Or.inr rfl)) d_gN)))) (fun _ _ _ _ _ => pts_nilT) (fun _ _ _ _ _ => (d_tup (d_cons (d_var (pv 3)) (d_cons (d_if (d_tcmp (op_eqD (at_blk hu).un) psem_eq (d_loc (pv 3)) (d_loc (pv 1)) (nomark _)) (d_var (pv 2)) (d_var (pv 4))) d_nil)))) (by decide)))) d_bnil)))) d_snil)
      (d_sone (d_ret (d_add (d_loc (pv 0)) (d_val (d_tup (d_cons (d_tup (d_cons (d_var (pv 1)) (d_cons (d_var (pv 2)) d_nil))) d_nil)))))))
theorem w_is_name (T : Tx K mg) (F : Fn K mg "is_name" st_is_name ["thing"]) : Cal P w K mg base "is_name" 1 (spP ⟨K, ⟨exA K, []⟩⟩ 1 m_is_name) :=
  cal_P (exA K) F sc_is_name fun f cdv A outer s H E hr => by
    have hu := at_def (P := P) (w := w) (K := K) (mg := mg) (base := base) (f := f) (cdv := cdv) (A := A) (outer := outer) (s := s) (H := H) (E := E) sc_is_name hr
    exact (d_sone (d_ret (d_and (d_isi1 rfl T.n_isinstance (by decide) rfl T.n_str (d_loc (pv 0))) (d_and (d_chain op_leA op_leA psem_ord psem_ord (d_val d_int) (d_val (d_callB call_lenA psem_len rfl T.n_len (d_bcons (d_loc (pv 0)) d_bnil))) (d_val d_int)) (d_one (d_callB (cr_all hu.calm) psem_all rfl T.n_all (d_bcons (d_val (d_fz (d_compF (own := [("sign", 1)]) hu (d_iAny (d_var (pv 0))) (blkOk_by (N := ["thing", "sign"]) (sc := defScope st_is_name) (own := [("sign", 1)]) (by decide +kernel)) (fun _ _ _ _ _ => (d_gName (at_blk hu).nd rfl (by first | exact Or.inl rfl | exact Or.inr rfl) (by first | exact Or.inl rfl | exact Or.inr rfl))) (fun _ _ _ _ _ => pts_nilT) (fun _ _ _ _ _ => (d_cmp (op_inA (at_blk hu).un) psem_in (d_loc (pv 1)) (d_val (d_glob rfl T.c_LETTERS fun _ => .str _)) (by rfl))) (by decide)))) d_bnil)))))))
theorem w_is_integer (T : Tx K mg) (F : Fn K mg "is_integer" st_is_integer ["thing"]) : Cal P w K mg base "is_integer" 1 (spP ⟨K, ⟨exA K, []⟩⟩ 1 m_is_integer) :=
  cal_P (exA K) F sc_is_integer fun f cdv A outer s H E hr => by
    have hu := at_def (P := P) (w := w) (K := K) (mg := mg) (base := base) (f := f) (cdv := cdv) (A := A) (outer := outer) (s := s) (H := H) (E := E) sc_is_integer hr
    exact (d_sone (d_ret (d_and (d_isi1 rfl T.n_isinstance (by decide) rfl T.n_int (d_loc (pv 0))) (d_one (d_not (d_val (d_isi1 rfl T.n_isinstance (by decide) rfl T.n_bool (d_loc (pv 0)))))))))
theorem w_T___setitem__ (T : Tx K mg) (F : FnMF K "__setitem__" "Tally.__setitem__" st_T___setitem__ ["self", "key", "count"]) (C_with_count : Cal P w K mg base "with_count" 1 (spP ⟨K, ⟨exA K, []⟩⟩ 3 (m_with_count))) (C_is_name : Cal P w K mg base "is_name" 1 (spP ⟨K, ⟨exA K, []⟩⟩ 1 (m_is_name))) (C_is_integer : Cal P w K mg base "is_integer" 1 (spP ⟨K, ⟨exA K, []⟩⟩ 1 (m_is_integer))) : CalMF P w K mg base "__setitem__" 2 (spI ⟨K, ⟨exA K, []⟩⟩ 3 m_T___setitem__) :=
  calMF_I (exA K) F sc_T___setitem__ (by decide) fun f cdv A outer s H E hr => by
    have hu := at_def (P := P) (w := w) (K := K) (mg := mg) (base := base) (f := f) (cdv := cdv) (A := A) (outer := outer) (s := s) (H := H) (E := E) sc_T___setitem__ hr
    exact (d_scons (d_ifS (d_tnot (d_tru (d_val (d_callP hu C_is_name (hr.mono (by omega)) rfl (d_cons (d_var (pv 1)) d_nil))))) (d_sone (d_raise hu T.k_NoName rfl)) d_snil)
      (d_scons (d_ifS (d_tnot (d_tru (d_val (d_callP hu C_is_integer (hr.mono (by omega)) rfl (d_cons (d_var (pv 2)) d_nil))))) (d_sone (d_raise hu T.k_NoNumber rfl)) d_snil)
      (d_sone (d_rowSet (i := 0) T.tC (pv 0) (d_callP hu C_with_count (hr.mono (by omega)) rfl (d_cons (d_row T.tC (d_loc (pv 0))) (d_cons (d_var (pv 1)) (d_cons (d_var (pv 2)) d_nil))))))))
theorem w_keys_of (T : Tx K mg) (F : FnS K mg "keys_of" st_keys_of "counters") : CalS P w K mg base "keys_of" 1 (spS ⟨K, ⟨exA K, []⟩⟩ m_keys_of) :=
  cal_S (exA K) F sc_keys_of fun f cdv A outer s H E hr => by
    have hu := at_def (P := P) (w := w) (K := K) (mg := mg) (base := base) (f := f) (cdv := cdv) (A := A) (outer := outer) (s := s) (H := H) (E := E) sc_keys_of hr
    exact (d_sone (d_ret (d_fz (d_callTyF (call_listA hu.calm) fsem_list rfl T.n_list (d_bcons (d_val (d_fz (d_dcomp2F (own := [("counter", 1), ("key", 2), ("count", 3)]) (vs1 := [2, 3]) hu (d_iAny (d_var (pv 0))) (blkOk_by (N := ["counters", "counter", "key", "count"]) (sc := defScope st_keys_of) (own := [("counter", 1), ("key", 2), ("count", 3)]) (by decide +kernel)) (fun _ _ _ _ _ => (d_gName (at_blk hu).nd rfl (by first | exact Or.inl rfl | exact Or.inr rfl) (by first | exact Or.inl rfl | exact Or.inr rfl))) (fun _ _ _ _ _ => (d_iAny (d_var (pv 1)))) (fun _ _ _ _ _ => (d_gTup (at_blk hu).calm (d_gC (d_gName (at_blk hu).nd rfl (by first | exact Or.inl rfl | exact Or.inr rfl) (by first | exact Or.inl rfl | exact Or.inr rfl)) (d_gC (d_gName (at_blk hu).nd rfl (by first | exact Or.inl rfl | exact Or.inr rfl) (by first | exact Or.inl rfl | exact Or.inr rfl)) d_gN)))) (fun _ _ _ _ _ => (d_var (pv 2))) (fun _ _ _ _ _ => d_bl) (by decide) (by decide) (by decide)))) d_bnil)))))
theorem w_all_equal (T : Tx K mg) (F : Fn K mg "all_equal" st_all_equal ["one", "other"]) (C_keys_of : CalS P w K mg base "keys_of" 1 (spS ⟨K, ⟨exA K, []⟩⟩ (m_keys_of))) : Cal P w K mg base "all_equal" 2 (spP ⟨K, ⟨exA K, []⟩⟩ 2 m_all_equal) :=
  cal_P (exA K) F sc_all_equal fun f cdv A outer s H E hr => by
    have hu := at_def (P := P) (w := w) (K := K) (mg := mg) (base := base) (f := f) (cdv := cdv) (A := A) (outer := outer) (s := s) (H := H) (E := E) sc_all_equal hr
    exact (d_scons (d_asg (d_tup (d_cons (d_fz (d_callTyF (call_dictT hu.calm) fsem_dict rfl T.n_dict (d_bcons (d_loc (pv 0)) d_bnil))) (d_cons (d_fz (d_callTyF (call_dictT hu.calm) fsem_dict rfl T.n_dict (d_bcons (d_loc (pv 1)) d_bnil))) d_nil))) (d_gTup hu.calm (d_gC (d_gName hu.nd rfl (by first | exact Or.inl rfl | exact Or.inr rfl) (by first | exact Or.inl rfl | exact Or.inr rfl)) (d_gC (d_gName hu.nd rfl (by first | exact Or.inl rfl | exact Or.inr rfl) (by first | exact Or.inl rfl | exact Or.inr rfl)) d_gN))))
      (d_sone (d_ret (d_callB (cr_all hu.calm) psem_all rfl T.n_all (d_bcons (d_val (d_fz (d_compF (own := [("key", 4)]) hu (d_iAny (d_callS hu C_keys_of (hr.mono (by omega)) rfl (d_cons (d_var (pv 0)) (d_cons (d_var (pv 1)) d_nil)))) (blkOk_by (N := ["one", "other", "counts", "others", "key"]) (sc := defScope st_all_equal) (own := [("key", 4)]) (by decide +kernel)) (fun _ _ _ _ _ => (d_gName (at_blk hu).nd rfl (by first | exact Or.inl rfl | exact Or.inr rfl) (by first | exact Or.inl rfl | exact Or.inr rfl))) (fun _ _ _ _ _ => pts_nilT) (fun _ _ _ _ _ => (d_cmp (op_eqD (at_blk hu).un) psem_eq (d_val (d_get2 (at_blk hu) (d_loc (pv 2)) (d_var (pv 4)) d_int)) (d_val (d_get2 (at_blk hu) (d_loc (pv 3)) (d_var (pv 4)) d_int)) (nomark _))) (by decide)))) d_bnil)))))
theorem w_T___eq__ (T : Tx K mg) (F : FnMF K "__eq__" "Tally.__eq__" st_T___eq__ ["self", "other"]) (C_all_equal : Cal P w K mg base "all_equal" 2 (spP ⟨K, ⟨exA K, []⟩⟩ 2 (m_all_equal))) : CalMF P w K mg base "__eq__" 3 (spP ⟨K, ⟨exA K, []⟩⟩ 2 m_T___eq__) :=
  calMF_P (exA K) F sc_T___eq__ fun f cdv A outer s H E hr => by
    have hu := at_def (P := P) (w := w) (K := K) (mg := mg) (base := base) (f := f) (cdv := cdv) (A := A) (outer := outer) (s := s) (H := H) (E := E) sc_T___eq__ hr
    exact (d_scons (d_ifS (d_tnot (d_tru (d_val (d_isT T.tC T.tI T.m_Tally rfl T.n_isinstance rfl (d_loc (pv 1)))))) (d_sone d_never) d_snil)
      (d_sone (d_ret (d_callP hu C_all_equal (hr.mono (by omega)) rfl (d_cons (d_row T.tC (d_loc (pv 0))) (d_cons (d_row T.tC (d_loc (pv 1))) d_nil))))))
theorem w_Ni (T : Tx K mg) (F : FnMF K "__eq__" "Tally.__eq__" st_T___eq__ ["self", "other"]) (C_all_equal : Cal P w K mg base "all_equal" 2 (spP ⟨K, ⟨exA K, []⟩⟩ 2 (m_all_equal))) : NiEq P w K mg base 3 :=
  niEq_of (exA K) F sc_T___eq__ rfl rfl T.n_NotImplemented fun f cdv A outer s H E hr => by
    have hu := at_def (P := P) (w := w) (K := K) (mg := mg) (base := base) (f := f) (cdv := cdv) (A := A) (outer := outer) (s := s) (H := H) (E := E) sc_T___eq__ hr
    exact (d_tnot (d_tru (d_val (d_isT T.tC T.tI T.m_Tally rfl T.n_isinstance rfl (d_loc (pv 1))))))
theorem w_T___bool__ (T : Tx K mg) (F : FnMF K "__bool__" "Tally.__bool__" st_T___bool__ ["self"]) : CalMF P w K mg base "__bool__" 1 (spP ⟨K, ⟨exA K, []⟩⟩ 1 m_T___bool__) :=
  calMF_P (exA K) F sc_T___bool__ fun f cdv A outer s H E hr => by
    have hu := at_def (P := P) (w := w) (K := K) (mg := mg) (base := base) (f := f) (cdv := cdv) (A := A) (outer := outer) (s := s) (H := H) (E := E) sc_T___bool__ hr
    exact (d_sone (d_ret (d_boolR rfl T.n_bool (d_bcons (d_val (d_row T.tC (d_loc (pv 0)))) d_bnil))))
theorem w_is_counter (T : Tx K mg) (F : Fn K mg "is_counter" st_is_counter ["thing"]) (C_is_name : Cal P w K mg base "is_name" 1 (spP ⟨K, ⟨exA K, []⟩⟩ 1 (m_is_name))) (C_is_integer : Cal P w K mg base "is_integer" 1 (spP ⟨K, ⟨exA K, []⟩⟩ 1 (m_is_integer))) : Cal P w K mg base "is_counter" 2 (spP ⟨K, ⟨exA K, []⟩⟩ 1 m_is_counter) :=
  cal_P (exA K) F sc_is_counter fun f cdv A outer s H E hr => by
    have hu := at_def (P := P) (w := w) (K := K) (mg := mg) (base := base) (f := f) (cdv := cdv) (A := A) (outer := outer) (s := s) (H := H) (E := E) sc_is_counter hr
    exact (d_scons (d_ifS (d_tnot (d_tru (d_val (d_isiU T.tU T.tI T.tC rfl T.n_isinstance (by decide) rfl T.n_tuple (d_loc (pv 0)))))) (d_sone (d_ret d_bl)) d_snil)
      (d_scons (d_for hu (passes_of rfl) (d_iAny (d_var (pv 0))) (d_gName hu.nd rfl (by first | exact Or.inl rfl | exact Or.inr rfl) (by first | exact Or.inl rfl | exact Or.inr rfl)) (d_sone (d_ifS (PW.pt (d_wor (d_tnot (d_tru (d_val (d_isi1 rfl T.n_isinstance (by decide) rfl T.n_tuple (d_loc (pv 1)))))) (d_wor (d_tcmp (op_neD hu.un) psem_ne (d_val (d_callB call_lenA psem_len rfl T.n_len (d_bcons (d_loc (pv 1)) d_bnil))) (d_val d_int) (nomark _)) (d_wor (d_tnot (d_tru (d_val (d_callP hu C_is_name (hr.mono (by omega)) rfl (d_cons (d_idx hu (d_loc (pv 1)) (d_val d_int)) d_nil))))) (d_wor1 (d_tnot (d_tru (d_val (d_callP hu C_is_integer (hr.mono (by omega)) rfl (d_cons (d_idx hu (d_loc (pv 1)) (d_val d_int)) d_nil)))))))))) (d_sone (d_ret d_bl)) d_snil)))
      (d_sone (d_ret (d_cmp (op_eqD hu.un) psem_eq (d_val (d_callB call_lenA psem_len rfl T.n_len (d_bcons (d_val (d_fz (d_dcompF (own := [("part", 1)]) hu (d_iAny (d_var (pv 0))) (blkOk_by (N := ["thing", "part"]) (sc := defScope st_is_counter) (own := [("part", 1)]) (by decide +kernel)) (fun _ _ _ _ _ => (d_gName (at_blk hu).nd rfl (by first | exact Or.inl rfl | exact Or.inr rfl) (by first | exact Or.inl rfl | exact Or.inr rfl))) (fun _ _ _ _ _ => pts_nilT) (fun _ _ _ _ _ => (d_idx (at_blk hu) (d_loc (pv 1)) (d_val d_int))) (fun _ _ _ _ _ => d_bl) (by decide)))) d_bnil))) (d_val (d_callB call_lenA psem_len rfl T.n_len (d_bcons (d_loc (pv 0)) d_bnil))) (nomark _))))))
theorem hc_T___init__ : ∀ a d, match m_T___init__ d with | .ok d' _ => b_T___init__ [.fro (.exn a), .fro d] = .ok .nx [.fro (.exn a), .fro d'] | .exc x => ∃ ρ', b_T___init__ [.fro (.exn a), .fro d] = .exc x ρ' | .stuck => True := fun a d => by
  unfold m_T___init__ b_T___init__
  cases e : m_is_counter [d] with
  | stuck => trivial
  | exc x => trivial
  | ok z o =>
    cases z with
    | bl b => cases b <;> simp [e, sIfS, sNot, sTst, sTru, sVal, sCallP, sCons, sNil, sVar, endP, tNotS, sRaise, sNx, Opd.get, D.truth]
    | _ => trivial
theorem w_T___init__ {f : Addr} {fd : FuncData} {ta : Addr} (T : Tx K mg) (M : Mk K (TC K) f) (FD : FunD K "__init__" "Tally.__init__" (defArgs st_T___init__) (defBody st_T___init__) (defScope st_T___init__) [.ref ta] [] f fd) (hta : EtC K ta) (C_is_counter : Cal P w K mg base "is_counter" 2 (spP ⟨K, ⟨exA K, []⟩⟩ 1 (m_is_counter))) : TalMk P w K mg base 3 m_T___init__ :=
  talMk_of (s1 := (defBody st_T___init__).getD 0 (.Pass ⟨0, 0, 0, 0⟩)) (body := b_T___init__) (chk := m_T___init__) T.tC M FD sc_T___init__ hta (fun T kV doc pm an cdv ct us its h1 h2 => match us, its, h1, h2 with | [_, _], [_], _, _ => ⟨_, rfl, rfl⟩) (fun T kV doc pm an cdv ct us its h1 h2 => match us, its, h1, h2 with | [_], [_], _, _ => ⟨_, rfl, rfl⟩) rfl hc_T___init__ fun cdv A outer s H E hr => by
    have hu := at_def (P := P) (w := w) (K := K) (mg := mg) (base := base) (f := f) (cdv := cdv) (A := A) (outer := outer) (s := s) (H := H) (E := E) sc_T___init__ hr
    exact (d_ifS (d_tnot (d_tru (d_val (d_callP hu C_is_counter (hr.mono (by omega)) rfl (d_cons (d_var (pv 1)) d_nil))))) (d_sone (d_raise hu T.k_NoCounter rfl)) d_snil)
theorem w_T___add__ (T : Tx K mg) (F : FnMF K "__add__" "Tally.__add__" st_T___add__ ["self", "other"]) (C_T___init__ : TalMk P w K mg base 3 m_T___init__) (C_joined : Cal P w K mg base "joined" 2 (spP ⟨K, ⟨exA K, []⟩⟩ 3 (m_joined))) : CalMF P w K mg base "__add__" 5 (spIF ⟨K, ⟨exA K, []⟩⟩ 2 m_T___add__) :=
  calM_F (exA K) F sc_T___add__ fun f cdv A outer s H E hr => by
    have hu := at_def (P := P) (w := w) (K := K) (mg := mg) (base := base) (f := f) (cdv := cdv) (A := A) (outer := outer) (s := s) (H := H) (E := E) sc_T___add__ hr
    exact (d_newR2 (d_ifS (d_tnot (d_tru (d_val (d_isT T.tC T.tI T.m_Tally rfl T.n_isinstance rfl (d_loc (pv 1)))))) (d_sone d_never) d_snil) (d_mkT hu C_T___init__ T.m_Tally (hr.mono (by omega)) rfl (d_callP hu C_joined (hr.mono (by omega)) rfl (d_cons d_str (d_cons (d_row T.tC (d_loc (pv 0))) (d_cons (d_row T.tC (d_loc (pv 1))) d_nil))))))
theorem w_T___sub__ (T : Tx K mg) (F : FnMF K "__sub__" "Tally.__sub__" st_T___sub__ ["self", "other"]) (C_T___init__ : TalMk P w K mg base 3 m_T___init__) (C_joined : Cal P w K mg base "joined" 2 (spP ⟨K, ⟨exA K, []⟩⟩ 3 (m_joined))) : CalMF P w K mg base "__sub__" 5 (spIF ⟨K, ⟨exA K, []⟩⟩ 2 m_T___sub__) :=
  calM_F (exA K) F sc_T___sub__ fun f cdv A outer s H E hr => by
    have hu := at_def (P := P) (w := w) (K := K) (mg := mg) (base := base) (f := f) (cdv := cdv) (A := A) (outer := outer) (s := s) (H := H) (E := E) sc_T___sub__ hr
    exact (d_newR2 (d_ifS (d_tnot (d_tru (d_val (d_isT T.tC T.tI T.m_Tally rfl T.n_isinstance rfl (d_loc (pv 1)))))) (d_sone d_never) d_snil) (d_mkT hu C_T___init__ T.m_Tally (hr.mono (by omega)) rfl (d_callP hu C_joined (hr.mono (by omega)) rfl (d_cons d_str (d_cons (d_row T.tC (d_loc (pv 0))) (d_cons (d_row T.tC (d_loc (pv 1))) d_nil))))))
theorem w_T___or__ (T : Tx K mg) (F : FnMF K "__or__" "Tally.__or__" st_T___or__ ["self", "other"]) (C_T___init__ : TalMk P w K mg base 3 m_T___init__) (C_joined : Cal P w K mg base "joined" 2 (spP ⟨K, ⟨exA K, []⟩⟩ 3 (m_joined))) : CalMF P w K mg base "__or__" 5 (spIF ⟨K, ⟨exA K, []⟩⟩ 2 m_T___or__) :=
  calM_F (exA K) F sc_T___or__ fun f cdv A outer s H E hr => by
    have hu := at_def (P := P) (w := w) (K := K) (mg := mg) (base := base) (f := f) (cdv := cdv) (A := A) (outer := outer) (s := s) (H := H) (E := E) sc_T___or__ hr
    exact (d_newR2 (d_ifS (d_tnot (d_tru (d_val (d_isT T.tC T.tI T.m_Tally rfl T.n_isinstance rfl (d_loc (pv 1)))))) (d_sone d_never) d_snil) (d_mkT hu C_T___init__ T.m_Tally (hr.mono (by omega)) rfl (d_callP hu C_joined (hr.mono (by omega)) rfl (d_cons d_str (d_cons (d_row T.tC (d_loc (pv 0))) (d_cons (d_row T.tC (d_loc (pv 1))) d_nil))))))
theorem w_T___and__ (T : Tx K mg) (F : FnMF K "__and__" "Tally.__and__" st_T___and__ ["self", "other"]) (C_T___init__ : TalMk P w K mg base 3 m_T___init__) (C_joined : Cal P w K mg base "joined" 2 (spP ⟨K, ⟨exA K, []⟩⟩ 3 (m_joined))) : CalMF P w K mg base "__and__" 5 (spIF ⟨K, ⟨exA K, []⟩⟩ 2 m_T___and__) :=
  calM_F (exA K) F sc_T___and__ fun f cdv A outer s H E hr => by
    have hu := at_def (P := P) (w := w) (K := K) (mg := mg) (base := base) (f := f) (cdv := cdv) (A := A) (outer := outer) (s := s) (H := H) (E := E) sc_T___and__ hr
    exact (d_newR2 (d_ifS (d_tnot (d_tru (d_val (d_isT T.tC T.tI T.m_Tally rfl T.n_isinstance rfl (d_loc (pv 1)))))) (d_sone d_never) d_snil) (d_mkT hu C_T___init__ T.m_Tally (hr.mono (by omega)) rfl (d_callP hu C_joined (hr.mono (by omega)) rfl (d_cons d_str (d_cons (d_row T.tC (d_loc (pv 0))) (d_cons (d_row T.tC (d_loc (pv 1))) d_nil))))))
theorem w_L_draw (T : Tx K mg) (F : Fn K mg "_law_draw" st_L_draw ["_law_tape", "_law_many"]) : Cal P w K mg base "_law_draw" 1 (spI ⟨K, ⟨exA K, []⟩⟩ 2 m_L_draw) :=
  cal_I (exA K) F sc_L_draw (by decide) fun f cdv A outer s H E hr => by
    have hu := at_def (P := P) (w := w) (K := K) (mg := mg) (base := base) (f := f) (cdv := cdv) (A := A) (outer := outer) (s := s) (H := H) (E := E) sc_L_draw hr
    exact (d_scons (d_set hu rfl (by first | exact Or.inl rfl | exact Or.inr rfl) d_int)
      (d_scons (d_ifS (d_tcmp op_ltA psem_ord (d_val (d_idx hu (d_loc (pv 0)) (d_val d_int))) (d_loc (pv 1)) (nomark _)) (d_scons (d_set hu rfl (by first | exact Or.inl rfl | exact Or.inr rfl) d_int)
      (d_scons (d_ifS (d_tcmp op_gtA psem_ord (d_val (d_callB call_lenA psem_len rfl T.n_len (d_bcons (d_val (d_idx hu (d_loc (pv 0)) (d_val d_int))) d_bnil))) (d_val d_int) (nomark _)) (d_sone (d_set hu rfl (by first | exact Or.inl rfl | exact Or.inr rfl) (d_idx hu (d_val (d_idx hu (d_loc (pv 0)) (d_val d_int))) (d_val (d_mod (d_val (d_callTy call_int1 psem_int rfl T.n_int (d_bcons (d_val (d_idx hu (d_loc (pv 0)) (d_val d_int))) d_bnil))) (d_val (d_callB call_lenA psem_len rfl T.n_len (d_bcons (d_val (d_idx hu (d_loc (pv 0)) (d_val d_int))) d_bnil)))))))) d_snil)
      (d_scons (d_ifS (PW.pt (d_wor (d_tcmp op_geA psem_ord (d_val (d_idx hu (d_loc (pv 0)) (d_val d_int))) (d_val (d_callB call_lenA psem_len rfl T.n_len (d_bcons (d_val (d_idx hu (d_loc (pv 0)) (d_val d_int))) d_bnil))) (nomark _)) (d_wor1 (d_tcmp op_ltA psem_ord (d_loc (pv 4)) (d_val (d_pow (d_val d_int) (d_val d_int))) (nomark _))))) (d_scons (d_set hu rfl (by first | exact Or.inl rfl | exact Or.inr rfl) (d_mod (d_val (d_callTy call_int1 psem_int rfl T.n_int (d_bcons (d_val (d_add (d_loc (pv 4)) (d_val (d_mul (d_val d_int) (d_val (d_idx hu (d_loc (pv 0)) (d_val d_int))))))) d_bnil))) (d_loc (pv 2))))
      (d_scons (d_set hu rfl (by first | exact Or.inl rfl | exact Or.inr rfl) (d_mod (d_val (d_callTy call_int1 psem_int rfl T.n_int (d_bcons (d_val (d_add (d_val (d_add (d_val (d_mul (d_loc (pv 4)) (d_loc (pv 4)))) (d_val (d_mul (d_val d_int) (d_loc (pv 4)))))) (d_val d_int))) d_bnil))) (d_loc (pv 2))))
      (d_sone (d_set hu rfl (by first | exact Or.inl rfl | exact Or.inr rfl) (d_mod (d_val (d_callTy call_int1 psem_int rfl T.n_int (d_bcons (d_val (d_add (d_val (d_mul (d_loc (pv 4)) (d_loc (pv 4)))) (d_val d_int))) d_bnil))) (d_loc (pv 2))))))) d_snil)
      (d_scons (d_asg (d_add (d_val (d_idx hu (d_loc (pv 0)) (d_val d_int))) (d_val d_int)) (d_gPut hu (pv 0) (d_val d_int)))
      (d_sone (d_asg (d_var (pv 4)) (d_gPut hu (pv 0) (d_val d_int)))))))) d_snil)
      (d_scons (d_set hu rfl (by first | exact Or.inl rfl | exact Or.inr rfl) (d_mod (d_val (d_callTy call_int1 psem_int rfl T.n_int (d_bcons (d_val (d_idx hu (d_loc (pv 0)) (d_val d_int))) d_bnil))) (d_loc (pv 1))))
      (d_scons (d_asg (d_div (d_val (d_idx hu (d_loc (pv 0)) (d_val d_int))) (d_loc (pv 1))) (d_gPut hu (pv 0) (d_val d_int)))
      (d_sone (d_ret (d_var (pv 3))))))))
theorem w_L_of (T : Tx K mg) (F : Fn K mg "_law_of" st_L_of ["_law_tape", "_law_some"]) (C_L_draw : Cal P w K mg base "_law_draw" 1 (spI ⟨K, ⟨exA K, []⟩⟩ 2 (m_L_draw))) : Cal P w K mg base "_law_of" 2 (spI ⟨K, ⟨exA K, []⟩⟩ 2 m_L_of) :=
  cal_I (exA K) F sc_L_of (by decide) fun f cdv A outer s H E hr => by
    have hu := at_def (P := P) (w := w) (K := K) (mg := mg) (base := base) (f := f) (cdv := cdv) (A := A) (outer := outer) (s := s) (H := H) (E := E) sc_L_of hr
    exact (d_sone (d_ret (d_idx hu (d_loc (pv 1)) (d_val (d_callI hu C_L_draw (hr.mono (by omega)) rfl (pv 0) (d_cons (d_callB call_lenA psem_len rfl T.n_len (d_bcons (d_loc (pv 1)) d_bnil)) d_nil))))))
theorem w_L_key (T : Tx K mg) (F : Fn K mg "_law_key" st_L_key ["_law_tape"]) (C_L_of : Cal P w K mg base "_law_of" 2 (spI ⟨K, ⟨exA K, []⟩⟩ 2 (m_L_of))) : Cal P w K mg base "_law_key" 3 (spI ⟨K, ⟨exA K, []⟩⟩ 1 m_L_key) :=
  cal_I (exA K) F sc_L_key (by decide) fun f cdv A outer s H E hr => by
    have hu := at_def (P := P) (w := w) (K := K) (mg := mg) (base := base) (f := f) (cdv := cdv) (A := A) (outer := outer) (s := s) (H := H) (E := E) sc_L_key hr
    exact (d_sone (d_ret (d_callI hu C_L_of (hr.mono (by omega)) rfl (pv 0) (d_cons (d_fz (d_lstF (d_cons d_str (d_cons d_str (d_cons d_str (d_cons d_str (d_cons d_str (d_cons d_str d_nil)))))))) d_nil))))
theorem w_L_near (T : Tx K mg) (F : Fn K mg "_law_near" st_L_near ["_law_tape", "_law_wide"]) (C_L_draw : Cal P w K mg base "_law_draw" 1 (spI ⟨K, ⟨exA K, []⟩⟩ 2 (m_L_draw))) : Cal P w K mg base "_law_near" 2 (spI ⟨K, ⟨exA K, []⟩⟩ 2 m_L_near) :=
  cal_I (exA K) F sc_L_near (by decide) fun f cdv A outer s H E hr => by
    have hu := at_def (P := P) (w := w) (K := K) (mg := mg) (base := base) (f := f) (cdv := cdv) (A := A) (outer := outer) (s := s) (H := H) (E := E) sc_L_near hr
    exact (d_sone (d_ret (d_sub (d_val (d_callI hu C_L_draw (hr.mono (by omega)) rfl (pv 0) (d_cons (d_add (d_val (d_mul (d_val d_int) (d_loc (pv 1)))) (d_val d_int)) d_nil))) (d_loc (pv 1)))))
theorem w_L_counter (T : Tx K mg) (F : Fn K mg "_law_counter" st_L_counter ["_law_tape", "_law_limit", "_law_proper_so"]) (C_L_draw : Cal P w K mg base "_law_draw" 1 (spI ⟨K, ⟨exA K, []⟩⟩ 2 (m_L_draw))) (C_L_key : Cal P w K mg base "_law_key" 3 (spI ⟨K, ⟨exA K, []⟩⟩ 1 (m_L_key))) (C_L_near : Cal P w K mg base "_law_near" 2 (spI ⟨K, ⟨exA K, []⟩⟩ 2 (m_L_near))) : Cal P w K mg base "_law_counter" 4 (spI ⟨K, ⟨exA K, []⟩⟩ 3 m_L_counter) :=
  cal_I (exA K) F sc_L_counter (by decide) fun f cdv A outer s H E hr => by
    have hu := at_def (P := P) (w := w) (K := K) (mg := mg) (base := base) (f := f) (cdv := cdv) (A := A) (outer := outer) (s := s) (H := H) (E := E) sc_L_counter hr
    exact (d_scons (d_setF hu rfl (by first | exact Or.inl rfl | exact Or.inr rfl) d_dctF)
      (d_scons (d_for hu (passes_of rfl) (d_iRng1 rfl T.n_range (d_cons (d_callI hu C_L_draw (hr.mono (by omega)) rfl (pv 0) (d_cons (d_add (d_loc (pv 1)) (d_val d_int)) d_nil)) d_nil)) (d_gName hu.nd rfl (by first | exact Or.inl rfl | exact Or.inr rfl) (by first | exact Or.inl rfl | exact Or.inr rfl)) (d_scons (d_set hu rfl (by first | exact Or.inl rfl | exact Or.inr rfl) (d_idx hu (d_val (d_fz (d_lstF (d_cons d_int (d_cons d_int (d_cons (d_pow (d_val d_int) (d_val d_int)) d_nil)))))) (d_val (d_callI hu C_L_draw (hr.mono (by omega)) rfl (pv 0) (d_cons d_int d_nil)))))
      (d_sone (d_asg (d_if (d_tru (d_loc (pv 2))) (d_add (d_val d_int) (d_val (d_callI hu C_L_draw (hr.mono (by omega)) rfl (pv 0) (d_cons (d_var (pv 5)) d_nil)))) (d_callI hu C_L_near (hr.mono (by omega)) rfl (pv 0) (d_cons (d_var (pv 5)) d_nil))) (d_gPut hu (pv 3) (d_val (d_callI hu C_L_key (hr.mono (by omega)) rfl (pv 0) d_nil)))))))
      (d_sone (d_ret (d_tupItems hu.calm rfl T.n_tuple (d_loc (pv 3)))))))
theorem w_T_counter (T : Tx K mg) (F : FnP K "counter" "Tally.counter" st_T_counter ["self"]) : CalPr P w K mg base "counter" 1 (spP ⟨K, ⟨exA K, []⟩⟩ 1 m_T_counter) :=
  calPr_P (exA K) F sc_T_counter fun f cdv A outer s H E hr => by
    have hu := at_def (P := P) (w := w) (K := K) (mg := mg) (base := base) (f := f) (cdv := cdv) (A := A) (outer := outer) (s := s) (H := H) (E := E) sc_T_counter hr
    exact (d_sone (d_ret (d_row T.tC (d_loc (pv 0)))))
theorem w_T_of (T : Tx K mg) (F : FnC K "of" "Tally.of" st_T_of ["cls", "names"]) (C_T___init__ : TalMk P w K mg base 3 m_T___init__) (C_is_name : Cal P w K mg base "is_name" 1 (spP ⟨K, ⟨exA K, []⟩⟩ 1 (m_is_name))) : CalC P w K mg base "of" 5 (spP ⟨K, ⟨exA K, []⟩⟩ 2 m_T_of) :=
  calC_P (exA K) F sc_T_of fun f cdv A outer s H E hr => by
    have hu := at_def (P := P) (w := w) (K := K) (mg := mg) (base := base) (f := f) (cdv := cdv) (A := A) (outer := outer) (s := s) (H := H) (E := E) sc_T_of hr
    exact (d_scons (d_ifS (PW.pt (d_wor (d_tnot (d_tru (d_val (d_isi2 rfl T.n_isinstance (by decide) (by decide) rfl T.n_list rfl T.n_tuple (d_loc (pv 1)))))) (d_wor1 (d_tnot (d_tru (d_val (d_callB (cr_all hu.calm) psem_all rfl T.n_all (d_bcons (d_val (d_fz (d_compF (own := [("name", 3)]) hu (d_iAny (d_var (pv 1))) (blkOk_by (N := ["cls", "names", "found", "name"]) (sc := defScope st_T_of) (own := [("name", 3)]) (by decide +kernel)) (fun _ _ _ _ _ => (d_gName (at_blk hu).nd rfl (by first | exact Or.inl rfl | exact Or.inr rfl) (by first | exact Or.inl rfl | exact Or.inr rfl))) (fun _ _ _ _ _ => pts_nilT) (fun _ _ _ _ _ => (d_callP (at_blk hu) C_is_name (hr.mono (by omega)) rfl (d_cons (d_var (pv 3)) d_nil))) (by decide)))) d_bnil)))))))) (d_sone (d_raise hu T.k_NoName rfl)) d_snil)
      (d_scons (d_setF hu rfl (by first | exact Or.inl rfl | exact Or.inr rfl) d_dctF)
      (d_scons (d_for hu (passes_of rfl) (d_iAny (d_var (pv 1))) (d_gName hu.nd rfl (by first | exact Or.inl rfl | exact Or.inr rfl) (by first | exact Or.inl rfl | exact Or.inr rfl)) (d_sone (d_asg (d_add (d_val (d_get2 hu (d_loc (pv 2)) (d_var (pv 3)) d_int)) (d_val d_int)) (d_gPut hu (pv 2) (d_loc (pv 3))))))
      (d_sone (d_ret (d_fz (d_mkV (i := 0) hu rfl (by first | exact Or.inl rfl | exact Or.inr (Or.inl rfl) | exact Or.inr (Or.inr rfl)) C_T___init__ (hr.mono (by omega)) (d_tupItems hu.calm rfl T.n_tuple (d_loc (pv 2))))))))))
theorem w_T_most_common (T : Tx K mg) (F : FnM K "most_common" "Tally.most_common" st_T_most_common ["self", "many"]) (C_is_integer : Cal P w K mg base "is_integer" 1 (spP ⟨K, ⟨exA K, []⟩⟩ 1 (m_is_integer))) : CalM P w K mg base "most_common" 2 (spP ⟨K, ⟨exA K, []⟩⟩ 2 m_T_most_common) :=
  calM_P (exA K) F sc_T_most_common fun f cdv A outer s H E hr => by
    have hu := at_def (P := P) (w := w) (K := K) (mg := mg) (base := base) (f := f) (cdv := cdv) (A := A) (outer := outer) (s := s) (H := H) (E := E) sc_T_most_common hr
    exact (d_scons (d_ifS (PW.pt (d_wor (d_tnot (d_tru (d_val (d_callP hu C_is_integer (hr.mono (by omega)) rfl (d_cons (d_var (pv 1)) d_nil))))) (d_wor1 (d_tcmp op_ltA psem_ord (d_loc (pv 1)) (d_val d_int) (nomark _))))) (d_sone (d_raise hu T.k_NoNumber rfl)) d_snil)
      (d_sone d_never))
theorem w_all_at_most (T : Tx K mg) (F : Fn K mg "all_at_most" st_all_at_most ["one", "other"]) (C_keys_of : CalS P w K mg base "keys_of" 1 (spS ⟨K, ⟨exA K, []⟩⟩ (m_keys_of))) : Cal P w K mg base "all_at_most" 2 (spP ⟨K, ⟨exA K, []⟩⟩ 2 m_all_at_most) :=
  cal_P (exA K) F sc_all_at_most fun f cdv A outer s H E hr => by
    have hu := at_def (P := P) (w := w) (K := K) (mg := mg) (base := base) (f := f) (cdv := cdv) (A := A) (outer := outer) (s := s) (H := H) (E := E) sc_all_at_most hr
    exact (d_scons (d_asg (d_tup (d_cons (d_fz (d_callTyF (call_dictT hu.calm) fsem_dict rfl T.n_dict (d_bcons (d_loc (pv 0)) d_bnil))) (d_cons (d_fz (d_callTyF (call_dictT hu.calm) fsem_dict rfl T.n_dict (d_bcons (d_loc (pv 1)) d_bnil))) d_nil))) (d_gTup hu.calm (d_gC (d_gName hu.nd rfl (by first | exact Or.inl rfl | exact Or.inr rfl) (by first | exact Or.inl rfl | exact Or.inr rfl)) (d_gC (d_gName hu.nd rfl (by first | exact Or.inl rfl | exact Or.inr rfl) (by first | exact Or.inl rfl | exact Or.inr rfl)) d_gN))))
      (d_sone (d_ret (d_callB (cr_all hu.calm) psem_all rfl T.n_all (d_bcons (d_val (d_fz (d_compF (own := [("key", 4)]) hu (d_iAny (d_callS hu C_keys_of (hr.mono (by omega)) rfl (d_cons (d_var (pv 0)) (d_cons (d_var (pv 1)) d_nil)))) (blkOk_by (N := ["one", "other", "counts", "others", "key"]) (sc := defScope st_all_at_most) (own := [("key", 4)]) (by decide +kernel)) (fun _ _ _ _ _ => (d_gName (at_blk hu).nd rfl (by first | exact Or.inl rfl | exact Or.inr rfl) (by first | exact Or.inl rfl | exact Or.inr rfl))) (fun _ _ _ _ _ => pts_nilT) (fun _ _ _ _ _ => (d_cmp op_leA psem_ord (d_val (d_get2 (at_blk hu) (d_loc (pv 2)) (d_var (pv 4)) d_int)) (d_val (d_get2 (at_blk hu) (d_loc (pv 3)) (d_var (pv 4)) d_int)) (nomark _))) (by decide)))) d_bnil)))))
theorem w_T_within (T : Tx K mg) (F : FnM K "within" "Tally.within" st_T_within ["self", "other"]) (C_all_at_most : Cal P w K mg base "all_at_most" 2 (spP ⟨K, ⟨exA K, []⟩⟩ 2 (m_all_at_most))) (C_looked : Cal P w K mg base "looked" 1 (spP ⟨K, ⟨exA K, []⟩⟩ 1 (m_looked))) : CalM P w K mg base "within" 3 (spP ⟨K, ⟨exA K, []⟩⟩ 2 m_T_within) :=
  calM_P (exA K) F sc_T_within fun f cdv A outer s H E hr => by
    have hu := at_def (P := P) (w := w) (K := K) (mg := mg) (base := base) (f := f) (cdv := cdv) (A := A) (outer := outer) (s := s) (H := H) (E := E) sc_T_within hr
    exact (d_sone (d_ret (d_callP hu C_all_at_most (hr.mono (by omega)) rfl (d_cons (d_row T.tC (d_loc (pv 0))) (d_cons (d_callP hu C_looked (hr.mono (by omega)) rfl (d_cons (d_var (pv 1)) d_nil)) d_nil)))))
theorem w_L_odd_refused (T : Tx K mg) {f0 cc PP : Addr} {fd0 : FuncData} (F0 : Fun K "_law_odd_refused" "_law_odd_refused" st_L_odd_refused f0 fd0) (hc0 : fd0.code = .ref cc) (hm0 : mg "_law_odd_refused" = some (.ref f0)) (hb0 : Binds K fd0 ["_law_first", "_law_one", "_law_second"] []) (TB : LamX.TabB base mg cc PP) (C_T___eq__ : CalMF P w K mg base "__eq__" 3 (spP ⟨K, ⟨exA K, []⟩⟩ 2 m_T___eq__)) (C_Ni : NiEq P w K mg base 3) (N_tried : Fn K mg "_law_tried" st_L_tried ["_law_call"]) (W_word : WordAt P w K mg base 1 "_law_word" (GoodW K)) (C_T___init__ : TalMk P w K mg base 3 m_T___init__) (C_T_of : CalC P w K mg base "of" 5 (spP ⟨K, ⟨exA K, []⟩⟩ 2 m_T_of)) (C_T_most_common : CalM P w K mg base "most_common" 2 (spP ⟨K, ⟨exA K, []⟩⟩ 2 m_T_most_common)) (C_T_within : CalM P w K mg base "within" 3 (spP ⟨K, ⟨exA K, []⟩⟩ 2 m_T_within)) : Cal P w K mg base "_law_odd_refused" 8 (spPT ⟨K, ⟨exA K, [(PP, lamQ "_law_odd_refused" st_L_odd_refused)]⟩⟩ 3 m_L_odd_refused) :=
  ⟨f0, fd0, _, okT (exA K) [(PP, lamQ "_law_odd_refused" st_L_odd_refused)] F0 sc_L_odd_refused fun cdv A outer s H E hcd hr => by
    obtain rfl : cdv = .ref cc := hcd.symm.trans hc0
    have hu := at_def (P := P) (w := w) (K := K) (mg := mg) (base := base) (f := f0) (cdv := .ref cc) (A := A) (outer := outer) (s := s) (H := H) (E := E) sc_L_odd_refused hr
    exact (d_scons (d_for hu (passes_of rfl) (d_iAny (d_fz (d_lstF (d_cons d_non (d_cons d_str (d_cons (d_fz (d_lstF (d_cons d_str d_nil))) (d_cons (d_fz (d_lstF (d_cons d_int d_nil))) (d_cons (d_fz (d_lstF (d_cons (d_fz (d_lstF (d_cons d_str d_nil))) d_nil))) d_nil)))))))) (d_gName hu.nd rfl (by first | exact Or.inl rfl | exact Or.inr rfl) (by first | exact Or.inl rfl | exact Or.inr rfl)) (d_sone (d_ifS (d_tcmp (op_neD hu.un) psem_ne (d_val (d_tried (k := 5) (kw := 1) hu TB rfl N_tried sc_L_tried hr rfl rfl T.m_CountError rfl rfl rfl rfl W_word (by decide) (hwd_ok T) (LamX.lamS_by (sc := defScope st_L_odd_refused) (by decide +kernel)) rfl (fun _ _ _ _ _ => rfl) (fun A outer s H E f c' hr => by have hu2 := at_lam (outer := outer) (H := H) (E := E) (f := f) (c := c') hu.nd hu.wd hr; exact (d_cmeth hu2 C_T_of T.m_Tally (hr.mono (by omega)) rfl (d_cons (d_var (pv 3)) d_nil))))) (d_val d_str) (nomark _)) (d_sone (d_ret d_bl)) d_snil)))
      (d_scons (d_for hu (passes_of rfl) (d_iAny (d_fz (d_lstF (d_cons d_non (d_cons d_int (d_cons (d_tup (d_cons (d_tup (d_cons d_str (d_cons d_non d_nil))) d_nil)) (d_cons (d_fz (d_callTyF (call_listA hu.calm) fsem_list rfl T.n_list (d_bcons (d_loc (pv 1)) d_bnil))) (d_cons (d_var (pv 2)) d_nil)))))))) (d_gName hu.nd rfl (by first | exact Or.inl rfl | exact Or.inr rfl) (by first | exact Or.inl rfl | exact Or.inr rfl)) (d_sone (d_ifS (d_tcmp (op_neD hu.un) psem_ne (d_val (d_tried (k := 5) (kw := 1) hu TB rfl N_tried sc_L_tried hr rfl rfl T.m_CountError rfl rfl rfl rfl W_word (by decide) (hwd_ok T) (LamX.lamS_by (sc := defScope st_L_odd_refused) (by decide +kernel)) rfl (fun _ _ _ _ _ => rfl) (fun A outer s H E f c' hr => by have hu2 := at_lam (outer := outer) (H := H) (E := E) (f := f) (c := c') hu.nd hu.wd hr; exact (d_fz (d_mkT hu2 C_T___init__ T.m_Tally (hr.mono (by omega)) rfl (d_var (pv 3))))))) (d_val d_str) (nomark _)) (d_sone (d_ret d_bl)) d_snil)))
      (d_scons (d_for hu (passes_of rfl) (d_iAny (d_fz (d_lstF (d_cons (d_neg (d_val d_int)) (d_cons d_non (d_cons d_bl (d_cons d_str d_nil))))))) (d_gName hu.nd rfl (by first | exact Or.inl rfl | exact Or.inr rfl) (by first | exact Or.inl rfl | exact Or.inr rfl)) (d_sone (d_ifS (d_tcmp (op_neD hu.un) psem_ne (d_val (d_tried (k := 5) (kw := 1) hu TB rfl N_tried sc_L_tried hr rfl rfl T.m_CountError rfl rfl rfl rfl W_word (by decide) (hwd_ok T) (LamX.lamS_by (sc := defScope st_L_odd_refused) (by decide +kernel)) rfl (fun _ _ _ _ _ => rfl) (fun A outer s H E f c' hr => by have hu2 := at_lam (outer := outer) (H := H) (E := E) (f := f) (c := c') hu.nd hu.wd hr; exact (d_methP hu2 T.tC C_T_most_common (hr.mono (by omega)) (d_var (pv 0)) (d_cons (d_var (pv 3)) d_nil))))) (d_val d_str) (nomark _)) (d_sone (d_ret d_bl)) d_snil)))
      (d_sone (d_ret (d_and (d_cmp (op_eqD hu.un) psem_eq (d_val (d_tried (k := 5) (kw := 1) hu TB rfl N_tried sc_L_tried hr rfl rfl T.m_CountError rfl rfl rfl rfl W_word (by decide) (hwd_ok T) (LamX.lamS_by (sc := defScope st_L_odd_refused) (by decide +kernel)) rfl (fun _ _ _ _ _ => rfl) (fun A outer s H E f c' hr => by have hu2 := at_lam (outer := outer) (H := H) (E := E) (f := f) (c := c') hu.nd hu.wd hr; exact (d_methP hu2 T.tC C_T_within (hr.mono (by omega)) (d_var (pv 0)) (d_cons (d_var (pv 1)) d_nil))))) (d_val d_str) (nomark _)) (d_and (d_not (d_val (d_eqT T.tE C_T___eq__ C_Ni (hr.mono (by omega)) (d_loc (pv 0)) (d_val d_int) (nomark _)))) (d_one (d_not (d_val (d_eqT T.tE C_T___eq__ C_Ni (hr.mono (by omega)) (d_loc (pv 0)) (d_loc (pv 1)) (nomark _)))))))))))), hm0, F0.kp, hb0⟩
theorem w_L_count (T : Tx K mg) (F : Fn K mg "_law_count" st_L_count ["_law_way", "_law_one", "_law_other"]) : Cal P w K mg base "_law_count" 1 (spP ⟨K, ⟨exA K, []⟩⟩ 3 m_L_count) :=
  cal_P (exA K) F sc_L_count fun f cdv A outer s H E hr => by
    have hu := at_def (P := P) (w := w) (K := K) (mg := mg) (base := base) (f := f) (cdv := cdv) (A := A) (outer := outer) (s := s) (H := H) (E := E) sc_L_count hr
    exact (d_scons (d_ifS (PW.pt (d_wand (d_tcmp op_isA psem_is (d_loc (pv 1)) (d_val d_non) (nomark _)) (d_wand1 (d_tcmp op_isA psem_is (d_loc (pv 2)) (d_val d_non) (nomark _))))) (d_sone (d_ret d_non)) d_snil)
      (d_scons (d_par hu rfl rfl (by decide) rfl rfl (d_cons (d_if (d_tcmp op_isA psem_is (d_loc (pv 1)) (d_val d_non) (nomark _)) d_int (d_var (pv 1))) (d_cons (d_if (d_tcmp op_isA psem_is (d_loc (pv 2)) (d_val d_non) (nomark _)) d_int (d_var (pv 2))) d_nil)) rfl)
      (d_scons (d_ifS (PW.pt (d_wor (d_tcmp (op_eqD hu.un) psem_eq (d_loc (pv 0)) (d_val d_str) (nomark _)) (d_wor1 (d_tcmp (op_eqD hu.un) psem_eq (d_loc (pv 0)) (d_val d_str) (nomark _))))) (d_sone (d_ret (d_if (d_tcmp (op_eqD hu.un) psem_eq (d_loc (pv 0)) (d_val d_str) (nomark _)) (d_add (d_loc (pv 4)) (d_loc (pv 5))) (d_sub (d_loc (pv 4)) (d_loc (pv 5)))))) d_snil)
      (d_scons (d_setF hu rfl (by first | exact Or.inl rfl | exact Or.inr rfl) (d_dispF (l := [((sCst (.str "add")), (sOps gAdd (b2 (sLoc 4) (sLoc 5)))), ((sCst (.str "less")), (sOps gSub (b2 (sLoc 4) (sLoc 5))))]) (pps_cons d_str (d_add (d_loc (pv 4)) (d_loc (pv 5))) (pps_cons d_str (d_sub (d_loc (pv 4)) (d_loc (pv 5))) pps_nil))))
      (d_scons (d_asg (d_tup (d_cons (d_callB (call_max2 hu.calm) psem_max2 rfl T.n_max (d_bcons (d_val (d_callTy call_int1 psem_int rfl T.n_int (d_bcons (d_loc (pv 4)) d_bnil))) (d_bcons (d_val (d_callTy call_int1 psem_int rfl T.n_int (d_bcons (d_loc (pv 5)) d_bnil))) d_bnil))) (d_cons (d_callB (call_min2 hu.calm) psem_min2 rfl T.n_min (d_bcons (d_val (d_callTy call_int1 psem_int rfl T.n_int (d_bcons (d_loc (pv 4)) d_bnil))) (d_bcons (d_val (d_callTy call_int1 psem_int rfl T.n_int (d_bcons (d_loc (pv 5)) d_bnil))) d_bnil))) d_nil))) (d_gTup hu.calm (d_gC (d_gPut hu (pv 3) (d_val d_str)) (d_gC (d_gPut hu (pv 3) (d_val d_str)) d_gN))))
      (d_sone (d_ret (d_if (d_tcmp op_gtA psem_ord (d_val (d_idx hu (d_loc (pv 3)) (d_loc (pv 0)))) (d_val d_int) (nomark _)) (d_idx hu (d_loc (pv 3)) (d_loc (pv 0))) d_non))))))))
theorem w_L_joined (T : Tx K mg) (F : Fn K mg "_law_joined" st_L_joined ["_law_way", "_law_one", "_law_other"]) (C_L_count : Cal P w K mg base "_law_count" 1 (spP ⟨K, ⟨exA K, []⟩⟩ 3 (m_L_count))) : Cal P w K mg base "_law_joined" 2 (spP ⟨K, ⟨exA K, []⟩⟩ 3 m_L_joined) :=
  cal_P (exA K) F sc_L_joined fun f cdv A outer s H E hr => by
    have hu := at_def (P := P) (w := w) (K := K) (mg := mg) (base := base) (f := f) (cdv := cdv) (A := A) (outer := outer) (s := s) (H := H) (E := E) sc_L_joined hr
    exact (d_scons (d_asgF hu rfl (by first | exact Or.inl rfl | exact Or.inr rfl) (d_lstF d_nil) (d_cons (d_fz (d_callTyF (call_dictT hu.calm) fsem_dict rfl T.n_dict (d_bcons (d_loc (pv 1)) d_bnil))) (d_cons (d_fz (d_callTyF (call_dictT hu.calm) fsem_dict rfl T.n_dict (d_bcons (d_loc (pv 2)) d_bnil))) d_nil)) (d_gC (d_gName hu.nd rfl (by first | exact Or.inl rfl | exact Or.inr rfl) (by first | exact Or.inl rfl | exact Or.inr rfl)) (d_gC (d_gName hu.nd rfl (by first | exact Or.inl rfl | exact Or.inr rfl) (by first | exact Or.inl rfl | exact Or.inr rfl)) d_gN)))
      (d_scons (d_for hu (passes_of rfl) (d_iAny (d_add (d_loc (pv 1)) (d_val (d_callTy call_tupleZ psem_tuple rfl T.n_tuple (d_bcons (d_val (d_fz (d_compF (own := [("_law_pair", 8)]) hu (d_iAny (d_var (pv 2))) (blkOk_by (N := ["_law_way", "_law_one", "_law_other", "_law_found", "_law_first", "_law_second", "_law_key_here", "_law_count_here", "_law_pair"]) (sc := defScope st_L_joined) (own := [("_law_pair", 8)]) (by decide +kernel)) (fun _ _ _ _ _ => (d_gName (at_blk hu).nd rfl (by first | exact Or.inl rfl | exact Or.inr rfl) (by first | exact Or.inl rfl | exact Or.inr rfl))) (fun _ _ _ _ _ => (pts_one (d_tcmp (op_notInA (at_blk hu).un) psem_notIn (d_val (d_idx (at_blk hu) (d_loc (pv 8)) (d_val d_int))) (d_loc (pv 4)) (by rfl)))) (fun _ _ _ _ _ => (d_var (pv 8))) (by decide)))) d_bnil))))) (d_gTup hu.calm (d_gC (d_gName hu.nd rfl (by first | exact Or.inl rfl | exact Or.inr rfl) (by first | exact Or.inl rfl | exact Or.inr rfl)) (d_gC (d_gName hu.nd rfl (by first | exact Or.inl rfl | exact Or.inr rfl) (by first | exact Or.inl rfl | exact Or.inr rfl)) d_gN))) (d_scons (d_set hu rfl (by first | exact Or.inl rfl | exact Or.inr rfl) (d_callP hu C_L_count (hr.mono (by omega)) rfl (d_cons (d_var (pv 0)) (d_cons (d_get1 hu (d_loc (pv 4)) (d_var (pv 6))) (d_cons (d_get1 hu (d_loc (pv 5)) (d_var (pv 6))) d_nil)))))
      (d_sone (d_ifS (d_tcmp op_isNotA psem_isNot (d_loc (pv 7)) (d_val d_non) (nomark _)) (d_sone (d_expr (d_mut PySem.F.slot_list_append PySem.F.type_list_append mt_append lmut_append (pv 3) (d_cons (d_tup (d_cons (d_var (pv 6)) (d_cons (d_var (pv 7)) d_nil))) d_nil)))) d_snil))))
      (d_sone (d_ret (d_callTy call_tupleZ psem_tuple rfl T.n_tuple (d_bcons (d_loc (pv 3)) d_bnil))))))
theorem w_turned (T : Tx K mg) (F : Fn K mg "turned" st_turned ["way", "counter"]) : Cal P w K mg base "turned" 1 (spP ⟨K, ⟨exA K, []⟩⟩ 2 m_turned) :=
  cal_P (exA K) F sc_turned fun f cdv A outer s H E hr => by
    have hu := at_def (P := P) (w := w) (K := K) (mg := mg) (base := base) (f := f) (cdv := cdv) (A := A) (outer := outer) (s := s) (H := H) (E := E) sc_turned hr
    exact (d_scons (d_set hu rfl (by first | exact Or.inl rfl | exact Or.inr rfl) (d_if (d_tcmp (op_eqD hu.un) psem_eq (d_loc (pv 0)) (d_val d_str) (nomark _)) d_int (d_neg (d_val d_int))))
      (d_sone (d_ret (d_callTy call_tupleZ psem_tuple rfl T.n_tuple (d_bcons (d_val (d_fz (d_compF (own := [("key", 3), ("count", 4)]) hu (d_iAny (d_var (pv 1))) (blkOk_by (N := ["way", "counter", "sign", "key", "count"]) (sc := defScope st_turned) (own := [("key", 3), ("count", 4)]) (by decide +kernel)) (fun _ _ _ _ _ => (d_gTup (at_blk hu).calm (d_gC (d_gName (at_blk hu).nd rfl (by first | exact Or.inl rfl | exact Or.inr rfl) (by first | exact Or.inl rfl | exact Or.inr rfl)) (d_gC (d_gName (at_blk hu).nd rfl (by first | exact Or.inl rfl | exact Or.inr rfl) (by first | exact Or.inl rfl | exact Or.inr rfl)) d_gN)))) (fun _ _ _ _ _ => (pts_one (d_tcmp op_gtA psem_ord (d_val (d_mul (d_loc (pv 2)) (d_loc (pv 4)))) (d_val d_int) (nomark _)))) (fun _ _ _ _ _ => (d_tup (d_cons (d_var (pv 3)) (d_cons (d_mul (d_loc (pv 2)) (d_loc (pv 4))) d_nil)))) (by decide)))) d_bnil)))))
theorem w_T___pos__ (T : Tx K mg) (F : FnMF K "__pos__" "Tally.__pos__" st_T___pos__ ["self"]) (C_T___init__ : TalMk P w K mg base 3 m_T___init__) (C_turned : Cal P w K mg base "turned" 1 (spP ⟨K, ⟨exA K, []⟩⟩ 2 (m_turned))) : CalMF P w K mg base "__pos__" 5 (spIF ⟨K, ⟨exA K, []⟩⟩ 1 m_T___pos__) :=
  calM_F (exA K) F sc_T___pos__ fun f cdv A outer s H E hr => by
    have hu := at_def (P := P) (w := w) (K := K) (mg := mg) (base := base) (f := f) (cdv := cdv) (A := A) (outer := outer) (s := s) (H := H) (E := E) sc_T___pos__ hr
    exact (d_newR1 (d_mkT hu C_T___init__ T.m_Tally (hr.mono (by omega)) rfl (d_callP hu C_turned (hr.mono (by omega)) rfl (d_cons d_str (d_cons (d_row T.tC (d_loc (pv 0))) d_nil)))))
theorem w_L_single (T : Tx K mg) (F : Fn K mg "_law_single" st_L_single ["_law_way", "_law_counter_here"]) : Cal P w K mg base "_law_single" 1 (spP ⟨K, ⟨exA K, []⟩⟩ 2 m_L_single) :=
  cal_P (exA K) F sc_L_single fun f cdv A outer s H E hr => by
    have hu := at_def (P := P) (w := w) (K := K) (mg := mg) (base := base) (f := f) (cdv := cdv) (A := A) (outer := outer) (s := s) (H := H) (E := E) sc_L_single hr
    exact (d_scons (d_set hu rfl (by first | exact Or.inl rfl | exact Or.inr rfl) (d_if (d_tcmp (op_eqD hu.un) psem_eq (d_loc (pv 0)) (d_val d_str) (nomark _)) d_int (d_neg (d_val d_int))))
      (d_sone (d_ret (d_callTy call_tupleZ psem_tuple rfl T.n_tuple (d_bcons (d_val (d_fz (d_compF (own := [("_law_key_here", 3), ("_law_count_here", 4)]) hu (d_iAny (d_var (pv 1))) (blkOk_by (N := ["_law_way", "_law_counter_here", "_law_sign", "_law_key_here", "_law_count_here"]) (sc := defScope st_L_single) (own := [("_law_key_here", 3), ("_law_count_here", 4)]) (by decide +kernel)) (fun _ _ _ _ _ => (d_gTup (at_blk hu).calm (d_gC (d_gName (at_blk hu).nd rfl (by first | exact Or.inl rfl | exact Or.inr rfl) (by first | exact Or.inl rfl | exact Or.inr rfl)) (d_gC (d_gName (at_blk hu).nd rfl (by first | exact Or.inl rfl | exact Or.inr rfl) (by first | exact Or.inl rfl | exact Or.inr rfl)) d_gN)))) (fun _ _ _ _ _ => (pts_one (d_tcmp op_gtA psem_ord (d_val (d_mul (d_loc (pv 2)) (d_loc (pv 4)))) (d_val d_int) (nomark _)))) (fun _ _ _ _ _ => (d_tup (d_cons (d_var (pv 3)) (d_cons (d_mul (d_loc (pv 2)) (d_loc (pv 4))) d_nil)))) (by decide)))) d_bnil)))))
theorem w_T___neg__ (T : Tx K mg) (F : FnMF K "__neg__" "Tally.__neg__" st_T___neg__ ["self"]) (C_T___init__ : TalMk P w K mg base 3 m_T___init__) (C_turned : Cal P w K mg base "turned" 1 (spP ⟨K, ⟨exA K, []⟩⟩ 2 (m_turned))) : CalMF P w K mg base "__neg__" 5 (spIF ⟨K, ⟨exA K, []⟩⟩ 1 m_T___neg__) :=
  calM_F (exA K) F sc_T___neg__ fun f cdv A outer s H E hr => by
    have hu := at_def (P := P) (w := w) (K := K) (mg := mg) (base := base) (f := f) (cdv := cdv) (A := A) (outer := outer) (s := s) (H := H) (E := E) sc_T___neg__ hr
    exact (d_newR1 (d_mkT hu C_T___init__ T.m_Tally (hr.mono (by omega)) rfl (d_callP hu C_turned (hr.mono (by omega)) rfl (d_cons d_str (d_cons (d_row T.tC (d_loc (pv 0))) d_nil)))))
theorem w_L_equal (T : Tx K mg) (F : Fn K mg "_law_equal" st_L_equal ["_law_one", "_law_other"]) : Cal P w K mg base "_law_equal" 1 (spP ⟨K, ⟨exA K, []⟩⟩ 2 m_L_equal) :=
  cal_P (exA K) F sc_L_equal fun f cdv A outer s H E hr => by
    have hu := at_def (P := P) (w := w) (K := K) (mg := mg) (base := base) (f := f) (cdv := cdv) (A := A) (outer := outer) (s := s) (H := H) (E := E) sc_L_equal hr
    exact (d_scons (d_asg (d_tup (d_cons (d_fz (d_callTyF (call_dictT hu.calm) fsem_dict rfl T.n_dict (d_bcons (d_loc (pv 0)) d_bnil))) (d_cons (d_fz (d_callTyF (call_dictT hu.calm) fsem_dict rfl T.n_dict (d_bcons (d_loc (pv 1)) d_bnil))) d_nil))) (d_gTup hu.calm (d_gC (d_gName hu.nd rfl (by first | exact Or.inl rfl | exact Or.inr rfl) (by first | exact Or.inl rfl | exact Or.inr rfl)) (d_gC (d_gName hu.nd rfl (by first | exact Or.inl rfl | exact Or.inr rfl) (by first | exact Or.inl rfl | exact Or.inr rfl)) d_gN))))
      (d_scons (d_set hu rfl (by first | exact Or.inl rfl | exact Or.inr rfl) (d_add (d_val (d_fz (d_callTyF (call_listA hu.calm) fsem_list rfl T.n_list (d_bcons (d_loc (pv 3)) d_bnil)))) (d_val (d_fz (d_callTyF (call_listA hu.calm) fsem_list rfl T.n_list (d_bcons (d_loc (pv 4)) d_bnil))))))
      (d_sone (d_ret (d_cmp (op_eqD hu.un) psem_eq (d_val (d_fz (d_compF (own := [("_law_key_here", 5)]) hu (d_iAny (d_var (pv 2))) (blkOk_by (N := ["_law_one", "_law_other", "_law_keys", "_law_first", "_law_second", "_law_key_here"]) (sc := defScope st_L_equal) (own := [("_law_key_here", 5)]) (by decide +kernel)) (fun _ _ _ _ _ => (d_gName (at_blk hu).nd rfl (by first | exact Or.inl rfl | exact Or.inr rfl) (by first | exact Or.inl rfl | exact Or.inr rfl))) (fun _ _ _ _ _ => (pts_one (d_tcmp (op_neD (at_blk hu).un) psem_ne (d_val (d_get2 (at_blk hu) (d_loc (pv 3)) (d_var (pv 5)) d_int)) (d_val (d_get2 (at_blk hu) (d_loc (pv 4)) (d_var (pv 5)) d_int)) (nomark _)))) (fun _ _ _ _ _ => (d_var (pv 5))) (by decide)))) (d_val (d_fz (d_lstF d_nil))) (nomark _))))))
theorem w_L_at_most (T : Tx K mg) (F : Fn K mg "_law_at_most" st_L_at_most ["_law_one", "_law_other"]) : Cal P w K mg base "_law_at_most" 1 (spP ⟨K, ⟨exA K, []⟩⟩ 2 m_L_at_most) :=
  cal_P (exA K) F sc_L_at_most fun f cdv A outer s H E hr => by
    have hu := at_def (P := P) (w := w) (K := K) (mg := mg) (base := base) (f := f) (cdv := cdv) (A := A) (outer := outer) (s := s) (H := H) (E := E) sc_L_at_most hr
    exact (d_scons (d_asg (d_tup (d_cons (d_fz (d_callTyF (call_dictT hu.calm) fsem_dict rfl T.n_dict (d_bcons (d_loc (pv 0)) d_bnil))) (d_cons (d_fz (d_callTyF (call_dictT hu.calm) fsem_dict rfl T.n_dict (d_bcons (d_loc (pv 1)) d_bnil))) d_nil))) (d_gTup hu.calm (d_gC (d_gName hu.nd rfl (by first | exact Or.inl rfl | exact Or.inr rfl) (by first | exact Or.inl rfl | exact Or.inr rfl)) (d_gC (d_gName hu.nd rfl (by first | exact Or.inl rfl | exact Or.inr rfl) (by first | exact Or.inl rfl | exact Or.inr rfl)) d_gN))))
      (d_sone (d_ret (d_cmp (op_eqD hu.un) psem_eq (d_val (d_fz (d_compF (own := [("_law_key_here", 4)]) hu (d_iAny (d_add (d_val (d_fz (d_callTyF (call_listA hu.calm) fsem_list rfl T.n_list (d_bcons (d_loc (pv 2)) d_bnil)))) (d_val (d_fz (d_callTyF (call_listA hu.calm) fsem_list rfl T.n_list (d_bcons (d_loc (pv 3)) d_bnil)))))) (blkOk_by (N := ["_law_one", "_law_other", "_law_first", "_law_second", "_law_key_here"]) (sc := defScope st_L_at_most) (own := [("_law_key_here", 4)]) (by decide +kernel)) (fun _ _ _ _ _ => (d_gName (at_blk hu).nd rfl (by first | exact Or.inl rfl | exact Or.inr rfl) (by first | exact Or.inl rfl | exact Or.inr rfl))) (fun _ _ _ _ _ => (pts_one (d_tcmp op_gtA psem_ord (d_val (d_get2 (at_blk hu) (d_loc (pv 2)) (d_var (pv 4)) d_int)) (d_val (d_get2 (at_blk hu) (d_loc (pv 3)) (d_var (pv 4)) d_int)) (nomark _)))) (fun _ _ _ _ _ => (d_var (pv 4))) (by decide)))) (d_val (d_fz (d_lstF d_nil))) (nomark _)))))
theorem w_L_ways (T : Tx K mg) (F : Fn K mg "_law_ways" st_L_ways []) : Cal P w K mg base "_law_ways" 1 (spP ⟨K, ⟨exA K, []⟩⟩ 0 m_L_ways) :=
  cal_P (exA K) F sc_L_ways fun f cdv A outer s H E hr => by
    have hu := at_def (P := P) (w := w) (K := K) (mg := mg) (base := base) (f := f) (cdv := cdv) (A := A) (outer := outer) (s := s) (H := H) (E := E) sc_L_ways hr
    exact (d_sone (d_ret (d_fz (d_lstF (d_cons d_str (d_cons d_str (d_cons d_str (d_cons d_str (d_cons d_str (d_cons d_str d_nil))))))))))
theorem w_law (T : Tx K mg) {fa PP : Addr} {fd : FuncData} (F : Fun K "law" "law" st_law fa fd) (C_T___iadd__ : CalMF P w K mg base "__iadd__" 3 (spIS ⟨K, ⟨exA K, []⟩⟩ 2 m_T___iadd__)) (C_T___setitem__ : CalMF P w K mg base "__setitem__" 2 (spI ⟨K, ⟨exA K, []⟩⟩ 3 m_T___setitem__)) (C_T___eq__ : CalMF P w K mg base "__eq__" 3 (spP ⟨K, ⟨exA K, []⟩⟩ 2 m_T___eq__)) (C_Ni : NiEq P w K mg base 3) (C_T___bool__ : CalMF P w K mg base "__bool__" 1 (spP ⟨K, ⟨exA K, []⟩⟩ 1 m_T___bool__)) (C_T___init__ : TalMk P w K mg base 3 m_T___init__) (C_T___add__ : CalMF P w K mg base "__add__" 5 (spIF ⟨K, ⟨exA K, []⟩⟩ 2 m_T___add__)) (C_T___sub__ : CalMF P w K mg base "__sub__" 5 (spIF ⟨K, ⟨exA K, []⟩⟩ 2 m_T___sub__)) (C_T___or__ : CalMF P w K mg base "__or__" 5 (spIF ⟨K, ⟨exA K, []⟩⟩ 2 m_T___or__)) (C_T___and__ : CalMF P w K mg base "__and__" 5 (spIF ⟨K, ⟨exA K, []⟩⟩ 2 m_T___and__)) (C_L_counter : Cal P w K mg base "_law_counter" 4 (spI ⟨K, ⟨exA K, []⟩⟩ 3 (m_L_counter))) (C_T_counter : CalPr P w K mg base "counter" 1 (spP ⟨K, ⟨exA K, []⟩⟩ 1 m_T_counter)) (C_L_key : Cal P w K mg base "_law_key" 3 (spI ⟨K, ⟨exA K, []⟩⟩ 1 (m_L_key))) (C_L_odd_refused : Cal P w K mg base "_law_odd_refused" 8 (spPT ⟨K, ⟨exA K, [(PP, lamQ "_law_odd_refused" st_L_odd_refused)]⟩⟩ 3 (m_L_odd_refused))) (C_L_joined : Cal P w K mg base "_law_joined" 2 (spP ⟨K, ⟨exA K, []⟩⟩ 3 (m_L_joined))) (C_T___pos__ : CalMF P w K mg base "__pos__" 5 (spIF ⟨K, ⟨exA K, []⟩⟩ 1 m_T___pos__)) (C_L_single : Cal P w K mg base "_law_single" 1 (spP ⟨K, ⟨exA K, []⟩⟩ 2 (m_L_single))) (C_T___neg__ : CalMF P w K mg base "__neg__" 5 (spIF ⟨K, ⟨exA K, []⟩⟩ 1 m_T___neg__)) (C_L_equal : Cal P w K mg base "_law_equal" 1 (spP ⟨K, ⟨exA K, []⟩⟩ 2 (m_L_equal))) (C_T_within : CalM P w K mg base "within" 3 (spP ⟨K, ⟨exA K, []⟩⟩ 2 m_T_within)) (C_L_at_most : Cal P w K mg base "_law_at_most" 1 (spP ⟨K, ⟨exA K, []⟩⟩ 2 (m_L_at_most))) (C_L_draw : Cal P w K mg base "_law_draw" 1 (spI ⟨K, ⟨exA K, []⟩⟩ 2 (m_L_draw))) (C_T_of : CalC P w K mg base "of" 5 (spP ⟨K, ⟨exA K, []⟩⟩ 2 m_T_of)) (C_L_ways : Cal P w K mg base "_law_ways" 1 (spP ⟨K, ⟨exA K, []⟩⟩ 0 (m_L_ways))) : FnOk P w K mg base (L2N.CX P w) 9 fa fd ["_law_script"] (spT K PP m_law) :=
  law_T2 (q0 := lamQ "_law_odd_refused" st_L_odd_refused) (ea := exA K) F sc_law fun cdv A outer s H E hr => by
    have hu := at_def (P := P) (w := w) (K := K) (mg := mg) (base := base) (f := fa) (cdv := cdv) (A := A) (outer := outer) (s := s) (H := H) (E := E) sc_law hr
    exact (d_scons (d_setF hu rfl (by first | exact Or.inl rfl | exact Or.inr rfl) (d_lstF (d_cons (d_fz (d_callTyF (call_listA hu.calm) fsem_list rfl T.n_list (d_bcons (d_loc (pv 0)) d_bnil))) (d_cons d_int (d_cons d_int d_nil)))))
      (d_scons (d_for hu (passes_of rfl) (d_iRng1 rfl T.n_range (d_cons d_int d_nil)) (d_gName hu.nd rfl (by first | exact Or.inl rfl | exact Or.inr rfl) (by first | exact Or.inl rfl | exact Or.inr rfl)) (d_scons (d_asg (d_tup (d_cons (d_callI hu C_L_counter (hr.mono (by omega)) rfl (pv 1) (d_cons d_int (d_cons d_bl d_nil))) (d_cons (d_callI hu C_L_counter (hr.mono (by omega)) rfl (pv 1) (d_cons d_int (d_cons d_bl d_nil))) d_nil))) (d_gTup hu.calm (d_gC (d_gName hu.nd rfl (by first | exact Or.inl rfl | exact Or.inr rfl) (by first | exact Or.inl rfl | exact Or.inr rfl)) (d_gC (d_gName hu.nd rfl (by first | exact Or.inl rfl | exact Or.inr rfl) (by first | exact Or.inl rfl | exact Or.inr rfl)) d_gN))))
      (d_scons (d_parF hu rfl rfl (by decide) rfl rfl (d_mkT hu C_T___init__ T.m_Tally (hr.mono (by omega)) rfl (d_var (pv 8))) (d_fz (d_mkT hu C_T___init__ T.m_Tally (hr.mono (by omega)) rfl (d_var (pv 9)))) (by rfl))
      (d_made (j := 3) hu T.tE C_T___setitem__ (hr.mono (by omega)) rfl (by first | exact Or.inl rfl | exact Or.inr rfl) (by first | exact Or.inl rfl | exact Or.inr (Or.inl rfl)) (d_binN (i := 10) rfl C_T___add__ T.tE (hr.mono (by omega)) (pv 10) (d_var (pv 11))) (d_cons (d_fz (d_binN (i := 10) rfl C_T___sub__ T.tE (hr.mono (by omega)) (pv 10) (d_var (pv 11)))) (d_cons (d_fz (d_binN (i := 10) rfl C_T___or__ T.tE (hr.mono (by omega)) (pv 10) (d_var (pv 11)))) (d_cons (d_fz (d_binN (i := 10) rfl C_T___and__ T.tE (hr.mono (by omega)) (pv 10) (d_var (pv 11)))) d_nil))) (d_tcmp (op_neD hu.un) psem_ne (d_val (d_fz (d_compF (own := [("_law_tally", 13)]) hu (d_iAny (d_var (pv 3))) (blkOk_by (N := ["_law_script", "_law_tape", "_law_turn", "_law_made", "_law_third", "_law_keys", "_law_due", "_law_key_here", "_law_one", "_law_other", "_law_first", "_law_second", "_law_part", "_law_tally", "_law_way"]) (sc := defScope st_law) (own := [("_law_tally", 13)]) (by decide +kernel)) (fun _ _ _ _ _ => (d_gName (at_blk hu).nd rfl (by first | exact Or.inl rfl | exact Or.inr rfl) (by first | exact Or.inl rfl | exact Or.inr rfl))) (fun _ _ _ _ _ => pts_nilT) (fun _ _ _ _ _ => (d_prop T.tC C_T_counter (hr.mono (by omega)) (d_var (pv 13)))) (by decide)))) (d_val (d_fz (d_compF (own := [("_law_way", 14)]) hu (d_iAny (d_slice (d_val (d_call0 hu C_L_ways (hr.mono (by omega)) rfl)) d_pn (d_pe d_int))) (blkOk_by (N := ["_law_script", "_law_tape", "_law_turn", "_law_made", "_law_third", "_law_keys", "_law_due", "_law_key_here", "_law_one", "_law_other", "_law_first", "_law_second", "_law_part", "_law_tally", "_law_way"]) (sc := defScope st_law) (own := [("_law_way", 14)]) (by decide +kernel)) (fun _ _ _ _ _ => (d_gName (at_blk hu).nd rfl (by first | exact Or.inl rfl | exact Or.inr rfl) (by first | exact Or.inl rfl | exact Or.inr rfl))) (fun _ _ _ _ _ => pts_nilT) (fun _ _ _ _ _ => (d_callP (at_blk hu) C_L_joined (hr.mono (by omega)) rfl (d_cons (d_var (pv 14)) (d_cons (d_var (pv 8)) (d_cons (d_var (pv 9)) d_nil))))) (by decide)))) (nomark _)) (PW.pt (d_wor (d_tcmp (op_neD hu.un) psem_ne (d_val (d_prop T.tC C_T_counter (hr.mono (by omega)) (d_fz (d_unT (i := 10) (un_posT C_T___pos__ (hr.mono (by omega))) (pv 10))))) (d_val (d_callP hu C_L_single (hr.mono (by omega)) rfl (d_cons d_str (d_cons (d_var (pv 8)) d_nil)))) (nomark _)) (d_wor1 (d_tcmp (op_neD hu.un) psem_ne (d_val (d_prop T.tC C_T_counter (hr.mono (by omega)) (d_fz (d_unT (i := 10) (un_negT C_T___neg__ (hr.mono (by omega))) (pv 10))))) (d_val (d_callP hu C_L_single (hr.mono (by omega)) rfl (d_cons d_str (d_cons (d_var (pv 8)) d_nil)))) (nomark _)))))
      (d_scons (d_ifS (PW.pt (d_wor (d_tcmp (op_neD hu.un) psem_ne (d_val (d_lendT (i := 10) (d_prop T.tC C_T_counter (hr.mono (by omega)) (d_var (pv 10))))) (d_loc (pv 8)) (nomark _)) (d_wor1 (d_tcmp (op_neD hu.un) psem_ne (d_val (d_prop T.tC C_T_counter (hr.mono (by omega)) (d_var (pv 11)))) (d_loc (pv 9)) (nomark _))))) (d_sone (d_ret d_bl)) d_snil)
      (d_scons (d_ifS (PW.pt (d_wor (d_tcmp (op_neD hu.un) psem_ne (d_val (d_eqT T.tE C_T___eq__ C_Ni (hr.mono (by omega)) (d_loc (pv 10)) (d_loc (pv 11)) (nomark _))) (d_val (d_callP hu C_L_equal (hr.mono (by omega)) rfl (d_cons (d_var (pv 8)) (d_cons (d_var (pv 9)) d_nil)))) (nomark _)) (d_wor1 (d_tcmp (op_neD hu.un) psem_ne (d_val (d_lendT (i := 10) (d_methP hu T.tC C_T_within (hr.mono (by omega)) (d_var (pv 10)) (d_cons (d_var (pv 11)) d_nil)))) (d_val (d_callP hu C_L_at_most (hr.mono (by omega)) rfl (d_cons (d_var (pv 8)) (d_cons (d_var (pv 9)) d_nil)))) (nomark _))))) (d_sone (d_ret d_bl)) d_snil)
      (d_third (i := 10) (j := 4) hu T.tE rfl C_T___iadd__ (hr.mono (by omega)) rfl (by first | exact Or.inl rfl | exact Or.inr rfl) (pv 10) (d_var (pv 11)) (PW.pt (d_wor (d_tcmp (op_neD hu.un) psem_ne (d_val (d_prop T.tC C_T_counter (hr.mono (by omega)) (d_var (pv 10)))) (d_val (d_callP hu C_L_joined (hr.mono (by omega)) rfl (d_cons d_str (d_cons (d_var (pv 8)) (d_cons (d_var (pv 9)) d_nil))))) (nomark _)) (d_wor1 (d_tnot (d_teqT T.tE C_T___eq__ C_Ni (hr.mono (by omega)) (d_loc (pv 10)) (d_loc (pv 4)) (nomark _))))))
      (d_scons (d_setComp (own := [("_law_part", 12)]) hu rfl rfl (sw_true rfl rfl rfl (by decide +kernel)) (d_iRng1 rfl T.n_range (d_cons (d_callI hu C_L_draw (hr.mono (by omega)) rfl (pv 1) (d_cons d_int d_nil)) d_nil)) (blkOk_by (N := ["_law_script", "_law_tape", "_law_turn", "_law_made", "_law_third", "_law_keys", "_law_due", "_law_key_here", "_law_one", "_law_other", "_law_first", "_law_second", "_law_part", "_law_tally", "_law_way"]) (sc := defScope st_law) (own := [("_law_part", 12)]) (by decide +kernel)) (fun _ _ _ _ _ => (d_gName (at_blk hu).nd rfl (by first | exact Or.inl rfl | exact Or.inr rfl) (by first | exact Or.inl rfl | exact Or.inr rfl))) (fun _ _ _ _ _ => pts_nilT) (fun _ _ _ _ _ => (d_callI (at_blk hu) C_L_key (hr.mono (by omega)) rfl (pv 1) d_nil)) (by decide))
      (d_scons (d_setF hu rfl (by first | exact Or.inl rfl | exact Or.inr rfl) d_dctF)
      (d_scons (d_for hu (passes_of rfl) (d_iAny (d_var (pv 5))) (d_gName hu.nd rfl (by first | exact Or.inl rfl | exact Or.inr rfl) (by first | exact Or.inl rfl | exact Or.inr rfl)) (d_sone (d_asg (d_add (d_val (d_get2 hu (d_loc (pv 6)) (d_var (pv 7)) d_int)) (d_val d_int)) (d_gPut hu (pv 6) (d_loc (pv 7))))))
      (d_scons (d_ifS (PW.pt (d_wor (d_tcmp (op_neD hu.un) psem_ne (d_val (d_prop T.tC C_T_counter (hr.mono (by omega)) (d_cmeth hu C_T_of T.m_Tally (hr.mono (by omega)) rfl (d_cons (d_var (pv 5)) d_nil)))) (d_val (d_tupItems hu.calm rfl T.n_tuple (d_loc (pv 6)))) (nomark _)) (d_wor1 (d_tcmp (op_neD hu.un) psem_ne (d_val (d_prop T.tC C_T_counter (hr.mono (by omega)) (d_cmeth hu C_T_of T.m_Tally (hr.mono (by omega)) rfl (d_cons (d_callTy call_tupleZ psem_tuple rfl T.n_tuple (d_bcons (d_loc (pv 5)) d_bnil)) d_nil)))) (d_val (d_tupItems hu.calm rfl T.n_tuple (d_loc (pv 6)))) (nomark _))))) (d_sone (d_ret d_bl)) d_snil)
      (d_sone (d_ifS (d_tnot (d_tru (d_val (d_lendT (i := 10) (d_callPT hu C_L_odd_refused (hr.mono (by omega)) rfl (d_cons (d_var (pv 10)) (d_cons (d_var (pv 8)) (d_cons (d_var (pv 11)) d_nil)))))))) (d_sone (d_ret d_bl)) d_snil)))))))))))))
      (d_sone (d_ret (d_and (d_eqT T.tE C_T___eq__ C_Ni (hr.mono (by omega)) (d_val (d_fz (d_mkT0 hu C_T___init__ T.m_Tally (hr.mono (by omega)) rfl))) (d_val (d_fz (d_mkT hu C_T___init__ T.m_Tally (hr.mono (by omega)) rfl (d_tup (d_cons (d_tup (d_cons d_str (d_cons d_int d_nil))) d_nil))))) (nomark _)) (d_one (d_notT C_T___bool__ (hr.mono (by omega)) (d_val (d_fz (d_mkT0 hu C_T___init__ T.m_Tally (hr.mono (by omega)) rfl))))))))))
end
section
theorem all_mk {l : PySem.W.OpenLaw} {w : World} [HW] [TW w] {K : PySem.W.Frag} {h : Heap} {mg : Str → Option Value} {fa : Addr} (X : K.In h) (G : h.Ns mainGlobals mg) (hfa : mg "law" = some (.ref fa))
    {cc PP : Addr} {ce : Value} {cdd : Option Addr} {cvs : Array Value} {csl : Array (Option Value)}
    {eT : Addr}
    {f0 : Addr} {od0 an0 : Option Addr} {sl0 : Array (Option Value)} {oc0 kV0 dc0 pm0 cd0 ct0 : Value}
    {f1 : Addr} {od1 an1 : Option Addr} {sl1 : Array (Option Value)} {oc1 kV1 dc1 pm1 cd1 ct1 : Value}
    {f2 : Addr} {od2 an2 : Option Addr} {sl2 : Array (Option Value)} {oc2 kV2 dc2 pm2 cd2 ct2 : Value}
    {f3 : Addr} {od3 an3 : Option Addr} {sl3 : Array (Option Value)} {oc3 kV3 dc3 pm3 cd3 ct3 : Value}
    {f4 : Addr} {od4 an4 : Option Addr} {sl4 : Array (Option Value)} {oc4 kV4 dc4 pm4 cd4 ct4 : Value}
    {f5 : Addr} {od5 an5 : Option Addr} {sl5 : Array (Option Value)} {oc5 kV5 dc5 pm5 cd5 ct5 : Value}
    {f6 : Addr} {od6 an6 : Option Addr} {sl6 : Array (Option Value)} {oc6 kV6 dc6 pm6 cd6 ct6 : Value}
    {f7 : Addr} {od7 an7 : Option Addr} {sl7 : Array (Option Value)} {oc7 kV7 dc7 pm7 cd7 ct7 : Value}
    {f8 : Addr} {od8 an8 : Option Addr} {sl8 : Array (Option Value)} {oc8 kV8 dc8 pm8 cd8 ct8 : Value}
    {f9 : Addr} {od9 an9 : Option Addr} {sl9 : Array (Option Value)} {oc9 kV9 dc9 pm9 cd9 ct9 : Value}
    {f10 : Addr} {od10 an10 : Option Addr} {sl10 : Array (Option Value)} {oc10 kV10 dc10 pm10 cd10 ct10 : Value}
    {f11 : Addr} {od11 an11 : Option Addr} {sl11 : Array (Option Value)} {oc11 kV11 dc11 pm11 cd11 ct11 : Value}
    {f12 : Addr} {od12 an12 : Option Addr} {sl12 : Array (Option Value)} {oc12 kV12 dc12 pm12 cd12 ct12 : Value}
    {f13 : Addr} {od13 an13 : Option Addr} {sl13 : Array (Option Value)} {oc13 kV13 dc13 pm13 cd13 ct13 : Value}
    {T0 ta0 : Addr} {zc1 : Value} {zd1 : Option Addr} {zn1 zn2 : Nat} {zs1 zs2 : Array (Option Value)}
    {f14 : Addr} {od14 an14 : Option Addr} {sl14 : Array (Option Value)} {oc14 kV14 dc14 pm14 cd14 ct14 : Value}
    {f15 : Addr} {od15 an15 : Option Addr} {sl15 : Array (Option Value)} {oc15 kV15 dc15 pm15 cd15 ct15 : Value}
    {f16 : Addr} {od16 an16 : Option Addr} {sl16 : Array (Option Value)} {oc16 kV16 dc16 pm16 cd16 ct16 : Value}
    {f17 : Addr} {od17 an17 : Option Addr} {sl17 : Array (Option Value)} {oc17 kV17 dc17 pm17 cd17 ct17 : Value}
    {f18 : Addr} {od18 an18 : Option Addr} {sl18 : Array (Option Value)} {oc18 kV18 dc18 pm18 cd18 ct18 : Value}
    {f19 : Addr} {od19 an19 : Option Addr} {sl19 : Array (Option Value)} {oc19 kV19 dc19 pm19 cd19 ct19 : Value}
    {f20 : Addr} {od20 an20 : Option Addr} {sl20 : Array (Option Value)} {oc20 kV20 dc20 pm20 cd20 ct20 : Value}
    {f21 : Addr} {od21 an21 : Option Addr} {sl21 : Array (Option Value)} {oc21 kV21 dc21 pm21 cd21 ct21 : Value}
    {f22 : Addr} {od22 an22 : Option Addr} {sl22 : Array (Option Value)} {oc22 kV22 dc22 pm22 cd22 ct22 : Value}
    {f23 : Addr} {od23 an23 : Option Addr} {sl23 : Array (Option Value)} {oc23 kV23 dc23 pm23 cd23 ct23 : Value}
    {pO23 : Addr} {rO23 : List Value}
    {f24 : Addr} {od24 an24 : Option Addr} {sl24 : Array (Option Value)} {oc24 kV24 dc24 pm24 cd24 ct24 : Value}
    {pO24 : Addr} {rO24 : List Value} {mO24 : Value}
    {f25 : Addr} {od25 an25 : Option Addr} {sl25 : Array (Option Value)} {oc25 kV25 dc25 pm25 cd25 ct25 : Value}
    {f26 : Addr} {od26 an26 : Option Addr} {sl26 : Array (Option Value)} {oc26 kV26 dc26 pm26 cd26 ct26 : Value}
    {f27 : Addr} {od27 an27 : Option Addr} {sl27 : Array (Option Value)} {oc27 kV27 dc27 pm27 cd27 ct27 : Value}
    {f28 : Addr} {od28 an28 : Option Addr} {sl28 : Array (Option Value)} {oc28 kV28 dc28 pm28 ct28 : Value}
    {f29 : Addr} {od29 an29 : Option Addr} {sl29 : Array (Option Value)} {oc29 kV29 dc29 pm29 cd29 ct29 : Value}
    {f30 : Addr} {od30 an30 : Option Addr} {sl30 : Array (Option Value)} {oc30 kV30 dc30 pm30 cd30 ct30 : Value}
    {f31 : Addr} {od31 an31 : Option Addr} {sl31 : Array (Option Value)} {oc31 kV31 dc31 pm31 cd31 ct31 : Value}
    {f32 : Addr} {od32 an32 : Option Addr} {sl32 : Array (Option Value)} {oc32 kV32 dc32 pm32 cd32 ct32 : Value}
    {f33 : Addr} {od33 an33 : Option Addr} {sl33 : Array (Option Value)} {oc33 kV33 dc33 pm33 cd33 ct33 : Value}
    {f34 : Addr} {od34 an34 : Option Addr} {sl34 : Array (Option Value)} {oc34 kV34 dc34 pm34 cd34 ct34 : Value}
    {f35 : Addr} {od35 an35 : Option Addr} {sl35 : Array (Option Value)} {oc35 kV35 dc35 pm35 cd35 ct35 : Value}
    {f36 : Addr} {od36 an36 : Option Addr} {sl36 : Array (Option Value)} {oc36 kV36 dc36 pm36 cd36 ct36 : Value}
    {f37 : Addr} {od37 an37 : Option Addr} {sl37 : Array (Option Value)} {oc37 kV37 dc37 pm37 cd37 ct37 : Value}
    {f38 : Addr} {od38 an38 : Option Addr} {sl38 : Array (Option Value)} {oc38 kV38 dc38 pm38 cd38 ct38 : Value}
    {f39 : Addr} {od39 an39 : Option Addr} {sl39 : Array (Option Value)} {oc39 kV39 dc39 pm39 cd39 ct39 : Value}
    {f40 : Addr} {od40 an40 : Option Addr} {sl40 : Array (Option Value)} {oc40 kV40 dc40 pm40 cd40 ct40 : Value}
    {tk0 : Tok}
    {e0 : Addr}
    {e1 : Addr}
    {e2 : Addr}
    {e3 : Addr}
    {e4 : Addr}
    {e5 : Addr}
    {e6 : Addr}
    {e7 : Addr}
    {e8 : Addr}
    {e9 : Addr}
    {e10 : Addr}
    (aT : PySem.W.nsIn K mainGlobals "Tally" = some (some (.ref eT)))
    (a0 : PySem.W.nsIn K mainGlobals "one_count" = some (some (.ref f0))) (l0 : K.lookup f0 = some ⟨oc0, od0, .func (PySem.W.fnOf "one_count" "one_count" (defArgs st_one_count) (defBody st_one_count) (defScope st_one_count) .none kV0 dc0 pm0 an0 cd0 ct0), sl0⟩) (c0 : PySem.W.codeIn K cd0 "one_count" = true) (k0 : PySem.W.keepIn K (.ref f0) = true)
    (a1 : PySem.W.nsIn K mainGlobals "joined" = some (some (.ref f1))) (l1 : K.lookup f1 = some ⟨oc1, od1, .func (PySem.W.fnOf "joined" "joined" (defArgs st_joined) (defBody st_joined) (defScope st_joined) .none kV1 dc1 pm1 an1 cd1 ct1), sl1⟩) (c1 : PySem.W.codeIn K cd1 "joined" = true) (k1 : PySem.W.keepIn K (.ref f1) = true)
    (a2 : PySem.W.nsIn K mainGlobals "looked" = some (some (.ref f2))) (l2 : K.lookup f2 = some ⟨oc2, od2, .func (PySem.W.fnOf "looked" "looked" (defArgs st_looked) (defBody st_looked) (defScope st_looked) .none kV2 dc2 pm2 an2 cd2 ct2), sl2⟩) (c2 : PySem.W.codeIn K cd2 "looked" = true) (k2 : PySem.W.keepIn K (.ref f2) = true)
    (a3 : PySem.W.findIn K (.ref eT) "__iadd__" = some (some (.ref f3)))
    (l3 : K.lookup f3 = some ⟨oc3, od3, .func (PySem.W.fnOf "__iadd__" "Tally.__iadd__" (defArgs st_T___iadd__) (defBody st_T___iadd__) (defScope st_T___iadd__) .none kV3 dc3 pm3 an3 cd3 ct3), sl3⟩) (c3 : PySem.W.codeIn K cd3 "Tally.__iadd__" = true) (k3 : PySem.W.keepIn K (.ref f3) = true)
    (a4 : PySem.W.nsIn K mainGlobals "with_count" = some (some (.ref f4))) (l4 : K.lookup f4 = some ⟨oc4, od4, .func (PySem.W.fnOf "with_count" "with_count" (defArgs st_with_count) (defBody st_with_count) (defScope st_with_count) .none kV4 dc4 pm4 an4 cd4 ct4), sl4⟩) (c4 : PySem.W.codeIn K cd4 "with_count" = true) (k4 : PySem.W.keepIn K (.ref f4) = true)
    (a5 : PySem.W.nsIn K mainGlobals "is_name" = some (some (.ref f5))) (l5 : K.lookup f5 = some ⟨oc5, od5, .func (PySem.W.fnOf "is_name" "is_name" (defArgs st_is_name) (defBody st_is_name) (defScope st_is_name) .none kV5 dc5 pm5 an5 cd5 ct5), sl5⟩) (c5 : PySem.W.codeIn K cd5 "is_name" = true) (k5 : PySem.W.keepIn K (.ref f5) = true)
    (a6 : PySem.W.nsIn K mainGlobals "is_integer" = some (some (.ref f6))) (l6 : K.lookup f6 = some ⟨oc6, od6, .func (PySem.W.fnOf "is_integer" "is_integer" (defArgs st_is_integer) (defBody st_is_integer) (defScope st_is_integer) .none kV6 dc6 pm6 an6 cd6 ct6), sl6⟩) (c6 : PySem.W.codeIn K cd6 "is_integer" = true) (k6 : PySem.W.keepIn K (.ref f6) = true)
    (a7 : PySem.W.findIn K (.ref eT) "__setitem__" = some (some (.ref f7)))
    (l7 : K.lookup f7 = some ⟨oc7, od7, .func (PySem.W.fnOf "__setitem__" "Tally.__setitem__" (defArgs st_T___setitem__) (defBody st_T___setitem__) (defScope st_T___setitem__) .none kV7 dc7 pm7 an7 cd7 ct7), sl7⟩) (c7 : PySem.W.codeIn K cd7 "Tally.__setitem__" = true) (k7 : PySem.W.keepIn K (.ref f7) = true)
    (a8 : PySem.W.nsIn K mainGlobals "keys_of" = some (some (.ref f8))) (l8 : K.lookup f8 = some ⟨oc8, od8, .func (PySem.W.fnOf "keys_of" "keys_of" (defArgs st_keys_of) (defBody st_keys_of) (defScope st_keys_of) .none kV8 dc8 pm8 an8 cd8 ct8), sl8⟩) (c8 : PySem.W.codeIn K cd8 "keys_of" = true) (k8 : PySem.W.keepIn K (.ref f8) = true)
    (a9 : PySem.W.nsIn K mainGlobals "all_equal" = some (some (.ref f9))) (l9 : K.lookup f9 = some ⟨oc9, od9, .func (PySem.W.fnOf "all_equal" "all_equal" (defArgs st_all_equal) (defBody st_all_equal) (defScope st_all_equal) .none kV9 dc9 pm9 an9 cd9 ct9), sl9⟩) (c9 : PySem.W.codeIn K cd9 "all_equal" = true) (k9 : PySem.W.keepIn K (.ref f9) = true)
    (a10 : PySem.W.findIn K (.ref eT) "__eq__" = some (some (.ref f10)))
    (l10 : K.lookup f10 = some ⟨oc10, od10, .func (PySem.W.fnOf "__eq__" "Tally.__eq__" (defArgs st_T___eq__) (defBody st_T___eq__) (defScope st_T___eq__) .none kV10 dc10 pm10 an10 cd10 ct10), sl10⟩) (c10 : PySem.W.codeIn K cd10 "Tally.__eq__" = true) (k10 : PySem.W.keepIn K (.ref f10) = true)
    (a11 : PySem.W.findIn K (.ref eT) "__bool__" = some (some (.ref f11)))
    (l11 : K.lookup f11 = some ⟨oc11, od11, .func (PySem.W.fnOf "__bool__" "Tally.__bool__" (defArgs st_T___bool__) (defBody st_T___bool__) (defScope st_T___bool__) .none kV11 dc11 pm11 an11 cd11 ct11), sl11⟩) (c11 : PySem.W.codeIn K cd11 "Tally.__bool__" = true) (k11 : PySem.W.keepIn K (.ref f11) = true)
    (a12 : PySem.W.nsIn K mainGlobals "is_counter" = some (some (.ref f12))) (l12 : K.lookup f12 = some ⟨oc12, od12, .func (PySem.W.fnOf "is_counter" "is_counter" (defArgs st_is_counter) (defBody st_is_counter) (defScope st_is_counter) .none kV12 dc12 pm12 an12 cd12 ct12), sl12⟩) (c12 : PySem.W.codeIn K cd12 "is_counter" = true) (k12 : PySem.W.keepIn K (.ref f12) = true)
    (a13 : PySem.W.findIn K (.ref eT) "__init__" = some (some (.ref f13)))
    (l13 : K.lookup f13 = some ⟨oc13, od13, .func (PySem.W.fnOf "__init__" "Tally.__init__" (defArgs st_T___init__) (defBody st_T___init__) (defScope st_T___init__) (.ref T0) kV13 dc13 pm13 an13 cd13 ct13), sl13⟩) (c13 : PySem.W.codeIn K cd13 "Tally.__init__" = true) (k13 : PySem.W.keepIn K (.ref f13) = true)
    (lt0 : K.lookup T0 = some ⟨zc1, zd1, .seq #[.ref ta0] zn1, zs1⟩) (la0 : K.lookup ta0 = some ⟨.type "tuple", none, .seq #[] zn2, zs2⟩)
    (a14 : PySem.W.findIn K (.ref eT) "__add__" = some (some (.ref f14)))
    (l14 : K.lookup f14 = some ⟨oc14, od14, .func (PySem.W.fnOf "__add__" "Tally.__add__" (defArgs st_T___add__) (defBody st_T___add__) (defScope st_T___add__) .none kV14 dc14 pm14 an14 cd14 ct14), sl14⟩) (c14 : PySem.W.codeIn K cd14 "Tally.__add__" = true) (k14 : PySem.W.keepIn K (.ref f14) = true)
    (a15 : PySem.W.findIn K (.ref eT) "__sub__" = some (some (.ref f15)))
    (l15 : K.lookup f15 = some ⟨oc15, od15, .func (PySem.W.fnOf "__sub__" "Tally.__sub__" (defArgs st_T___sub__) (defBody st_T___sub__) (defScope st_T___sub__) .none kV15 dc15 pm15 an15 cd15 ct15), sl15⟩) (c15 : PySem.W.codeIn K cd15 "Tally.__sub__" = true) (k15 : PySem.W.keepIn K (.ref f15) = true)
    (a16 : PySem.W.findIn K (.ref eT) "__or__" = some (some (.ref f16)))
    (l16 : K.lookup f16 = some ⟨oc16, od16, .func (PySem.W.fnOf "__or__" "Tally.__or__" (defArgs st_T___or__) (defBody st_T___or__) (defScope st_T___or__) .none kV16 dc16 pm16 an16 cd16 ct16), sl16⟩) (c16 : PySem.W.codeIn K cd16 "Tally.__or__" = true) (k16 : PySem.W.keepIn K (.ref f16) = true)
    (a17 : PySem.W.findIn K (.ref eT) "__and__" = some (some (.ref f17)))
    (l17 : K.lookup f17 = some ⟨oc17, od17, .func (PySem.W.fnOf "__and__" "Tally.__and__" (defArgs st_T___and__) (defBody st_T___and__) (defScope st_T___and__) .none kV17 dc17 pm17 an17 cd17 ct17), sl17⟩) (c17 : PySem.W.codeIn K cd17 "Tally.__and__" = true) (k17 : PySem.W.keepIn K (.ref f17) = true)
    (a18 : PySem.W.nsIn K mainGlobals "_law_draw" = some (some (.ref f18))) (l18 : K.lookup f18 = some ⟨oc18, od18, .func (PySem.W.fnOf "_law_draw" "_law_draw" (defArgs st_L_draw) (defBody st_L_draw) (defScope st_L_draw) .none kV18 dc18 pm18 an18 cd18 ct18), sl18⟩) (c18 : PySem.W.codeIn K cd18 "_law_draw" = true) (k18 : PySem.W.keepIn K (.ref f18) = true)
    (a19 : PySem.W.nsIn K mainGlobals "_law_of" = some (some (.ref f19))) (l19 : K.lookup f19 = some ⟨oc19, od19, .func (PySem.W.fnOf "_law_of" "_law_of" (defArgs st_L_of) (defBody st_L_of) (defScope st_L_of) .none kV19 dc19 pm19 an19 cd19 ct19), sl19⟩) (c19 : PySem.W.codeIn K cd19 "_law_of" = true) (k19 : PySem.W.keepIn K (.ref f19) = true)
    (a20 : PySem.W.nsIn K mainGlobals "_law_key" = some (some (.ref f20))) (l20 : K.lookup f20 = some ⟨oc20, od20, .func (PySem.W.fnOf "_law_key" "_law_key" (defArgs st_L_key) (defBody st_L_key) (defScope st_L_key) .none kV20 dc20 pm20 an20 cd20 ct20), sl20⟩) (c20 : PySem.W.codeIn K cd20 "_law_key" = true) (k20 : PySem.W.keepIn K (.ref f20) = true)
    (a21 : PySem.W.nsIn K mainGlobals "_law_near" = some (some (.ref f21))) (l21 : K.lookup f21 = some ⟨oc21, od21, .func (PySem.W.fnOf "_law_near" "_law_near" (defArgs st_L_near) (defBody st_L_near) (defScope st_L_near) .none kV21 dc21 pm21 an21 cd21 ct21), sl21⟩) (c21 : PySem.W.codeIn K cd21 "_law_near" = true) (k21 : PySem.W.keepIn K (.ref f21) = true)
    (a22 : PySem.W.nsIn K mainGlobals "_law_counter" = some (some (.ref f22))) (l22 : K.lookup f22 = some ⟨oc22, od22, .func (PySem.W.fnOf "_law_counter" "_law_counter" (defArgs st_L_counter) (defBody st_L_counter) (defScope st_L_counter) .none kV22 dc22 pm22 an22 cd22 ct22), sl22⟩) (c22 : PySem.W.codeIn K cd22 "_law_counter" = true) (k22 : PySem.W.keepIn K (.ref f22) = true)
    (ap23 : PySem.W.findIn K (.ref eT) "counter" = some (some (.ref pO23))) (a23 : PySem.W.recIn K pO23 "property" = some (.ref f23 :: rO23))
    (l23 : K.lookup f23 = some ⟨oc23, od23, .func (PySem.W.fnOf "counter" "Tally.counter" (defArgs st_T_counter) (defBody st_T_counter) (defScope st_T_counter) .none kV23 dc23 pm23 an23 cd23 ct23), sl23⟩) (c23 : PySem.W.codeIn K cd23 "Tally.counter" = true) (k23 : PySem.W.keepIn K (.ref f23) = true)
    (ab24 : PySem.W.typeIn K (.ref eT) = some mO24) (ac24 : PySem.W.findCls K (.ref eT) mO24 "of" = some (.get (.builtin "classmethod.__get__") (.ref pO24) .none (.ref eT))) (a24 : PySem.W.recIn K pO24 "classmethod" = some (.ref f24 :: rO24))
    (l24 : K.lookup f24 = some ⟨oc24, od24, .func (PySem.W.fnOf "of" "Tally.of" (defArgs st_T_of) (defBody st_T_of) (defScope st_T_of) .none kV24 dc24 pm24 an24 cd24 ct24), sl24⟩) (c24 : PySem.W.codeIn K cd24 "Tally.of" = true) (k24 : PySem.W.keepIn K (.ref f24) = true)
    (a25 : PySem.W.findIn K (.ref eT) "most_common" = some (some (.ref f25)))
    (l25 : K.lookup f25 = some ⟨oc25, od25, .func (PySem.W.fnOf "most_common" "Tally.most_common" (defArgs st_T_most_common) (defBody st_T_most_common) (defScope st_T_most_common) .none kV25 dc25 pm25 an25 cd25 ct25), sl25⟩) (c25 : PySem.W.codeIn K cd25 "Tally.most_common" = true) (k25 : PySem.W.keepIn K (.ref f25) = true)
    (a26 : PySem.W.nsIn K mainGlobals "all_at_most" = some (some (.ref f26))) (l26 : K.lookup f26 = some ⟨oc26, od26, .func (PySem.W.fnOf "all_at_most" "all_at_most" (defArgs st_all_at_most) (defBody st_all_at_most) (defScope st_all_at_most) .none kV26 dc26 pm26 an26 cd26 ct26), sl26⟩) (c26 : PySem.W.codeIn K cd26 "all_at_most" = true) (k26 : PySem.W.keepIn K (.ref f26) = true)
    (a27 : PySem.W.findIn K (.ref eT) "within" = some (some (.ref f27)))
    (l27 : K.lookup f27 = some ⟨oc27, od27, .func (PySem.W.fnOf "within" "Tally.within" (defArgs st_T_within) (defBody st_T_within) (defScope st_T_within) .none kV27 dc27 pm27 an27 cd27 ct27), sl27⟩) (c27 : PySem.W.codeIn K cd27 "Tally.within" = true) (k27 : PySem.W.keepIn K (.ref f27) = true)
    (a28 : PySem.W.nsIn K mainGlobals "_law_odd_refused" = some (some (.ref f28))) (l28 : K.lookup f28 = some ⟨oc28, od28, .func (PySem.W.fnOf "_law_odd_refused" "_law_odd_refused" (defArgs st_L_odd_refused) (defBody st_L_odd_refused) (defScope st_L_odd_refused) .none kV28 dc28 pm28 an28 (.ref cc) ct28), sl28⟩) (c28 : PySem.W.codeIn K (.ref cc) "_law_odd_refused" = true) (k28 : PySem.W.keepIn K (.ref f28) = true)
    (a29 : PySem.W.nsIn K mainGlobals "_law_count" = some (some (.ref f29))) (l29 : K.lookup f29 = some ⟨oc29, od29, .func (PySem.W.fnOf "_law_count" "_law_count" (defArgs st_L_count) (defBody st_L_count) (defScope st_L_count) .none kV29 dc29 pm29 an29 cd29 ct29), sl29⟩) (c29 : PySem.W.codeIn K cd29 "_law_count" = true) (k29 : PySem.W.keepIn K (.ref f29) = true)
    (a30 : PySem.W.nsIn K mainGlobals "_law_joined" = some (some (.ref f30))) (l30 : K.lookup f30 = some ⟨oc30, od30, .func (PySem.W.fnOf "_law_joined" "_law_joined" (defArgs st_L_joined) (defBody st_L_joined) (defScope st_L_joined) .none kV30 dc30 pm30 an30 cd30 ct30), sl30⟩) (c30 : PySem.W.codeIn K cd30 "_law_joined" = true) (k30 : PySem.W.keepIn K (.ref f30) = true)
    (a31 : PySem.W.nsIn K mainGlobals "turned" = some (some (.ref f31))) (l31 : K.lookup f31 = some ⟨oc31, od31, .func (PySem.W.fnOf "turned" "turned" (defArgs st_turned) (defBody st_turned) (defScope st_turned) .none kV31 dc31 pm31 an31 cd31 ct31), sl31⟩) (c31 : PySem.W.codeIn K cd31 "turned" = true) (k31 : PySem.W.keepIn K (.ref f31) = true)
    (a32 : PySem.W.findIn K (.ref eT) "__pos__" = some (some (.ref f32)))
    (l32 : K.lookup f32 = some ⟨oc32, od32, .func (PySem.W.fnOf "__pos__" "Tally.__pos__" (defArgs st_T___pos__) (defBody st_T___pos__) (defScope st_T___pos__) .none kV32 dc32 pm32 an32 cd32 ct32), sl32⟩) (c32 : PySem.W.codeIn K cd32 "Tally.__pos__" = true) (k32 : PySem.W.keepIn K (.ref f32) = true)
    (a33 : PySem.W.nsIn K mainGlobals "_law_single" = some (some (.ref f33))) (l33 : K.lookup f33 = some ⟨oc33, od33, .func (PySem.W.fnOf "_law_single" "_law_single" (defArgs st_L_single) (defBody st_L_single) (defScope st_L_single) .none kV33 dc33 pm33 an33 cd33 ct33), sl33⟩) (c33 : PySem.W.codeIn K cd33 "_law_single" = true) (k33 : PySem.W.keepIn K (.ref f33) = true)
    (a34 : PySem.W.findIn K (.ref eT) "__neg__" = some (some (.ref f34)))
    (l34 : K.lookup f34 = some ⟨oc34, od34, .func (PySem.W.fnOf "__neg__" "Tally.__neg__" (defArgs st_T___neg__) (defBody st_T___neg__) (defScope st_T___neg__) .none kV34 dc34 pm34 an34 cd34 ct34), sl34⟩) (c34 : PySem.W.codeIn K cd34 "Tally.__neg__" = true) (k34 : PySem.W.keepIn K (.ref f34) = true)
    (a35 : PySem.W.nsIn K mainGlobals "_law_equal" = some (some (.ref f35))) (l35 : K.lookup f35 = some ⟨oc35, od35, .func (PySem.W.fnOf "_law_equal" "_law_equal" (defArgs st_L_equal) (defBody st_L_equal) (defScope st_L_equal) .none kV35 dc35 pm35 an35 cd35 ct35), sl35⟩) (c35 : PySem.W.codeIn K cd35 "_law_equal" = true) (k35 : PySem.W.keepIn K (.ref f35) = true)
    (a36 : PySem.W.nsIn K mainGlobals "_law_at_most" = some (some (.ref f36))) (l36 : K.lookup f36 = some ⟨oc36, od36, .func (PySem.W.fnOf "_law_at_most" "_law_at_most" (defArgs st_L_at_most) (defBody st_L_at_most) (defScope st_L_at_most) .none kV36 dc36 pm36 an36 cd36 ct36), sl36⟩) (c36 : PySem.W.codeIn K cd36 "_law_at_most" = true) (k36 : PySem.W.keepIn K (.ref f36) = true)
    (a37 : PySem.W.nsIn K mainGlobals "_law_ways" = some (some (.ref f37))) (l37 : K.lookup f37 = some ⟨oc37, od37, .func (PySem.W.fnOf "_law_ways" "_law_ways" (defArgs st_L_ways) (defBody st_L_ways) (defScope st_L_ways) .none kV37 dc37 pm37 an37 cd37 ct37), sl37⟩) (c37 : PySem.W.codeIn K cd37 "_law_ways" = true) (k37 : PySem.W.keepIn K (.ref f37) = true)
    (a38 : PySem.W.nsIn K mainGlobals "law" = some (some (.ref f38))) (l38 : K.lookup f38 = some ⟨oc38, od38, .func (PySem.W.fnOf "law" "law" (defArgs st_law) (defBody st_law) (defScope st_law) .none kV38 dc38 pm38 an38 cd38 ct38), sl38⟩) (c38 : PySem.W.codeIn K cd38 "law" = true) (k38 : PySem.W.keepIn K (.ref f38) = true)
    (a39 : PySem.W.nsIn K mainGlobals "_law_tried" = some (some (.ref f39))) (l39 : K.lookup f39 = some ⟨oc39, od39, .func (PySem.W.fnOf "_law_tried" "_law_tried" (defArgs st_L_tried) (defBody st_L_tried) (defScope st_L_tried) .none kV39 dc39 pm39 an39 cd39 ct39), sl39⟩) (c39 : PySem.W.codeIn K cd39 "_law_tried" = true) (k39 : PySem.W.keepIn K (.ref f39) = true)
    (a40 : PySem.W.nsIn K mainGlobals "_law_word" = some (some (.ref f40))) (l40 : K.lookup f40 = some ⟨oc40, od40, .func (PySem.W.fnOf "_law_word" "_law_word" (defArgs st_L_word) (defBody st_L_word) (defScope st_L_word) .none kV40 dc40 pm40 an40 cd40 ct40), sl40⟩) (c40 : PySem.W.codeIn K cd40 "_law_word" = true) (k40 : PySem.W.keepIn K (.ref f40) = true)
    (hc : K.lookup cc = some ⟨ce, cdd, .fields cvs, csl⟩) (hP : cvs[11]? = some (.ref PP)) (hh : PySem.W.codeHdIn K cc PP = true) (nP : K.lookup PP = none)
    (z0 : PySem.W.nsIn K mainGlobals "NotImplemented" = some none)
    (z1 : PySem.W.nsIn K mainGlobals "all" = some none)
    (z2 : PySem.W.nsIn K mainGlobals "bool" = some none)
    (z3 : PySem.W.nsIn K mainGlobals "dict" = some none)
    (z4 : PySem.W.nsIn K mainGlobals "int" = some none)
    (z5 : PySem.W.nsIn K mainGlobals "isinstance" = some none)
    (z6 : PySem.W.nsIn K mainGlobals "len" = some none)
    (z7 : PySem.W.nsIn K mainGlobals "list" = some none)
    (z8 : PySem.W.nsIn K mainGlobals "max" = some none)
    (z9 : PySem.W.nsIn K mainGlobals "min" = some none)
    (z10 : PySem.W.nsIn K mainGlobals "range" = some none)
    (z11 : PySem.W.nsIn K mainGlobals "str" = some none)
    (z12 : PySem.W.nsIn K mainGlobals "tuple" = some none)
    (z13 : PySem.W.nsIn K mainGlobals "zip" = some none)
    (y0 : PySem.W.nsIn K mainGlobals "LETTERS" = some (some (.str "abcdefghijklmnopqrstuvwxyz" tk0)))
    (ea0 : PySem.W.nsIn K mainGlobals "NoCounter" = some (some (.ref e0)))
    (ea1 : PySem.W.nsIn K mainGlobals "NoCounters" = some (some (.ref e1)))
    (ea2 : PySem.W.nsIn K mainGlobals "NoExpression" = some (some (.ref e2)))
    (ea3 : PySem.W.nsIn K mainGlobals "NoScript" = some (some (.ref e3)))
    (ea4 : PySem.W.nsIn K mainGlobals "NoSystem" = some (some (.ref e4)))
    (ea5 : PySem.W.nsIn K mainGlobals "NoName" = some (some (.ref e5)))
    (ea6 : PySem.W.nsIn K mainGlobals "NoNumber" = some (some (.ref e6)))
    (ea7 : PySem.W.nsIn K mainGlobals "NoWay" = some (some (.ref e7)))
    (ea8 : PySem.W.nsIn K mainGlobals "NoText" = some (some (.ref e8)))
    (ea9 : PySem.W.nsIn K mainGlobals "TooMany" = some (some (.ref e9)))
    (ea10 : PySem.W.nsIn K mainGlobals "CountError" = some (some (.ref e10)))
    (ed0 : ExcD K e0 e10) (eb0 : BsK K e0 e0 e1 e2 e3 e4 e5 e6 e7 e8 e9 true false false false false false false false false false)
    (ed5 : ExcD K e5 e10) (eb5 : BsK K e5 e0 e1 e2 e3 e4 e5 e6 e7 e8 e9 false false false false false true false false false false)
    (ed6 : ExcD K e6 e10) (eb6 : BsK K e6 e0 e1 e2 e3 e4 e5 e6 e7 e8 e9 false false false false false false true false false false)
    (x3F : PySem.W.isFn K (.ref f3) = true)
    (y3F : PySem.W.fnIn K f3 = true)
    (x7F : PySem.W.isFn K (.ref f7) = true)
    (y7F : PySem.W.fnIn K f7 = true)
    (x10F : PySem.W.isFn K (.ref f10) = true)
    (y10F : PySem.W.fnIn K f10 = true)
    (x11F : PySem.W.isFn K (.ref f11) = true)
    (y11F : PySem.W.fnIn K f11 = true)
    (x13F : PySem.W.isFn K (.ref f13) = true)
    (mk1 : PySem.W.makesIn K eT = true)
    (mk2 : PySem.W.keepIn K (.ref eT) = true)
    (x14F : PySem.W.isFn K (.ref f14) = true)
    (y14F : PySem.W.fnIn K f14 = true)
    (x15F : PySem.W.isFn K (.ref f15) = true)
    (y15F : PySem.W.fnIn K f15 = true)
    (x16F : PySem.W.isFn K (.ref f16) = true)
    (y16F : PySem.W.fnIn K f16 = true)
    (x17F : PySem.W.isFn K (.ref f17) = true)
    (y17F : PySem.W.fnIn K f17 = true)
    (pg23 : PySem.W.specialIn K (.ref pO23) "__get__" = some (some (.builtin "property.__get__")))
    (pt23 : PySem.W.takesIn K (.ref pO23) = some true)
    (fi24 : PySem.W.fnIn K f24 = true)
    (rd24 : PySem.W.readsIn K eT mO24 = true)
    (ga24 : PySem.W.specialIn K (.ref eT) "__getattribute__" = some (some (.builtin "type.__getattribute__")))
    (x25F : PySem.W.isFn K (.ref f25) = true)
    (x27F : PySem.W.isFn K (.ref f27) = true)
    (x32F : PySem.W.isFn K (.ref f32) = true)
    (y32F : PySem.W.fnIn K f32 = true)
    (x34F : PySem.W.isFn K (.ref f34) = true)
    (y34F : PySem.W.fnIn K f34 = true)
    (tcA : TalCA K eT)
    (tiA : TalIA K eT)
    (tu0 : PySem.W.kitOne K (.ref eT) (.type "tuple") = some false)
    (teA : TalEA K eT)
    : ∃ (fd fdr : FuncData) (fr c P : Addr) (o1 : Obj) (e : Value) (dd : Option Addr) (vs : Array Value) (sl : Array (Option Value)), mg "_law_odd_refused" = some (.ref fr) ∧ K.lookup fr = some o1 ∧ o1.data = .func fdr ∧ fdr.code = .ref c ∧ K.lookup c = some ⟨e, dd, .fields vs, sl⟩ ∧ vs[11]? = some (.ref P) ∧ PySem.W.codeHdIn K c P = true ∧ K.lookup P = none ∧ (∀ (s : Shared) (v : Value), BindsTo s fd ⟨[v], []⟩ [("_law_script", v)]) ∧ ∀ base : Heap, K.In base → base.Ns mainGlobals mg → LamX.TabB base mg c P → FnOk l.prog w K mg base (L2N.CX l.prog w) 9 fa fd ["_law_script"] (spT K P m_law) := by
  have e := hfa.symm.trans (PySem.W.mg_of X G a38)
  cases e
  have q0 : exA K "NoCounter" = e0 := by unfold exA fnA; rw [ea0]
  have q1 : exA K "NoCounters" = e1 := by unfold exA fnA; rw [ea1]
  have q2 : exA K "NoExpression" = e2 := by unfold exA fnA; rw [ea2]
  have q3 : exA K "NoScript" = e3 := by unfold exA fnA; rw [ea3]
  have q4 : exA K "NoSystem" = e4 := by unfold exA fnA; rw [ea4]
  have q5 : exA K "NoName" = e5 := by unfold exA fnA; rw [ea5]
  have q6 : exA K "NoNumber" = e6 := by unfold exA fnA; rw [ea6]
  have q7 : exA K "NoWay" = e7 := by unfold exA fnA; rw [ea7]
  have q8 : exA K "NoText" = e8 := by unfold exA fnA; rw [ea8]
  have q9 : exA K "TooMany" = e9 := by unfold exA fnA; rw [ea9]
  have q10 : exA K "CountError" = e10 := by unfold exA fnA; rw [ea10]
  have qT : TC K = eT := by unfold TC fnA; rw [aT]
  have T : Tx K mg := ⟨PySem.W.mg_none_of X G z0, PySem.W.mg_none_of X G z1, PySem.W.mg_none_of X G z2, PySem.W.mg_none_of X G z3, PySem.W.mg_none_of X G z4, PySem.W.mg_none_of X G z5, PySem.W.mg_none_of X G z6, PySem.W.mg_none_of X G z7, PySem.W.mg_none_of X G z8, PySem.W.mg_none_of X G z9, PySem.W.mg_none_of X G z10, PySem.W.mg_none_of X G z11, PySem.W.mg_none_of X G z12, PySem.W.mg_none_of X G z13, ⟨_, PySem.W.mg_of X G y0, ⟨_, rfl⟩⟩, by rw [q0]; exact PySem.W.mg_of X G ea0, by rw [q1]; exact PySem.W.mg_of X G ea1, by rw [q2]; exact PySem.W.mg_of X G ea2, by rw [q3]; exact PySem.W.mg_of X G ea3, by rw [q4]; exact PySem.W.mg_of X G ea4, by rw [q5]; exact PySem.W.mg_of X G ea5, by rw [q6]; exact PySem.W.mg_of X G ea6, by rw [q7]; exact PySem.W.mg_of X G ea7, by rw [q8]; exact PySem.W.mg_of X G ea8, by rw [q9]; exact PySem.W.mg_of X G ea9, by rw [q10]; exact PySem.W.mg_of X G ea10, by rw [q0, q10]; exact ed0, by rw [q0, q1, q2, q3, q4, q5, q6, q7, q8, q9]; exact eb0, by rw [q5, q10]; exact ed5, by rw [q0, q1, q2, q3, q4, q5, q6, q7, q8, q9]; exact eb5, by rw [q6, q10]; exact ed6, by rw [q0, q1, q2, q3, q4, q5, q6, q7, q8, q9]; exact eb6, tcA.to qT, tiA.to qT, by rw [qT]; exact PySem.W.mg_of X G aT, teA.to qT, by rw [qT]; exact tu0⟩
  have F0 := fun_mk (st := st_one_count) l0 c0 k0
  have N0 : Fn K mg "one_count" st_one_count ["way", "count", "other"] := ⟨_, _, F0, PySem.W.mg_of X G a0, F0.binds (ps := ["way", "count", "other"]) fun _ _ _ _ _ _ us hl => match us, hl with | [_, _, _], _ => rfl⟩
  have F1 := fun_mk (st := st_joined) l1 c1 k1
  have N1 : Fn K mg "joined" st_joined ["way", "one", "other"] := ⟨_, _, F1, PySem.W.mg_of X G a1, F1.binds (ps := ["way", "one", "other"]) fun _ _ _ _ _ _ us hl => match us, hl with | [_, _, _], _ => rfl⟩
  have F2 := fun_mk (st := st_looked) l2 c2 k2
  have N2 : Fn K mg "looked" st_looked ["other"] := ⟨_, _, F2, PySem.W.mg_of X G a2, F2.binds (ps := ["other"]) fun _ _ _ _ _ _ us hl => match us, hl with | [_], _ => rfl⟩
  have F3 := fun_mk (st := st_T___iadd__) l3 c3 k3
  have N3 : FnMF K "__iadd__" "Tally.__iadd__" st_T___iadd__ ["self", "other"] := ⟨_, _, F3, by rw [qT]; exact a3, x3F, y3F, F3.binds (ps := ["self", "other"]) fun _ _ _ _ _ _ us hl => match us, hl with | [_, _], _ => rfl⟩
  have F4 := fun_mk (st := st_with_count) l4 c4 k4
  have N4 : Fn K mg "with_count" st_with_count ["row", "key", "count"] := ⟨_, _, F4, PySem.W.mg_of X G a4, F4.binds (ps := ["row", "key", "count"]) fun _ _ _ _ _ _ us hl => match us, hl with | [_, _, _], _ => rfl⟩
  have F5 := fun_mk (st := st_is_name) l5 c5 k5
  have N5 : Fn K mg "is_name" st_is_name ["thing"] := ⟨_, _, F5, PySem.W.mg_of X G a5, F5.binds (ps := ["thing"]) fun _ _ _ _ _ _ us hl => match us, hl with | [_], _ => rfl⟩
  have F6 := fun_mk (st := st_is_integer) l6 c6 k6
  have N6 : Fn K mg "is_integer" st_is_integer ["thing"] := ⟨_, _, F6, PySem.W.mg_of X G a6, F6.binds (ps := ["thing"]) fun _ _ _ _ _ _ us hl => match us, hl with | [_], _ => rfl⟩
  have F7 := fun_mk (st := st_T___setitem__) l7 c7 k7
  have N7 : FnMF K "__setitem__" "Tally.__setitem__" st_T___setitem__ ["self", "key", "count"] := ⟨_, _, F7, by rw [qT]; exact a7, x7F, y7F, F7.binds (ps := ["self", "key", "count"]) fun _ _ _ _ _ _ us hl => match us, hl with | [_, _, _], _ => rfl⟩
  have F8 := fun_mk (st := st_keys_of) l8 c8 k8
  have N8 : FnS K mg "keys_of" st_keys_of "counters" := ⟨_, _, F8, PySem.W.mg_of X G a8, fun us rest hl => match us, rest, hl with | [], [], _ => rfl | [], _ :: _, _ => rfl⟩
  have F9 := fun_mk (st := st_all_equal) l9 c9 k9
  have N9 : Fn K mg "all_equal" st_all_equal ["one", "other"] := ⟨_, _, F9, PySem.W.mg_of X G a9, F9.binds (ps := ["one", "other"]) fun _ _ _ _ _ _ us hl => match us, hl with | [_, _], _ => rfl⟩
  have F10 := fun_mk (st := st_T___eq__) l10 c10 k10
  have N10 : FnMF K "__eq__" "Tally.__eq__" st_T___eq__ ["self", "other"] := ⟨_, _, F10, by rw [qT]; exact a10, x10F, y10F, F10.binds (ps := ["self", "other"]) fun _ _ _ _ _ _ us hl => match us, hl with | [_, _], _ => rfl⟩
  have F11 := fun_mk (st := st_T___bool__) l11 c11 k11
  have N11 : FnMF K "__bool__" "Tally.__bool__" st_T___bool__ ["self"] := ⟨_, _, F11, by rw [qT]; exact a11, x11F, y11F, F11.binds (ps := ["self"]) fun _ _ _ _ _ _ us hl => match us, hl with | [_], _ => rfl⟩
  have F12 := fun_mk (st := st_is_counter) l12 c12 k12
  have N12 : Fn K mg "is_counter" st_is_counter ["thing"] := ⟨_, _, F12, PySem.W.mg_of X G a12, F12.binds (ps := ["thing"]) fun _ _ _ _ _ _ us hl => match us, hl with | [_], _ => rfl⟩
  have F13 := funD_init (st := st_T___init__) l13 c13 k13 lt0
  have F14 := fun_mk (st := st_T___add__) l14 c14 k14
  have N14 : FnMF K "__add__" "Tally.__add__" st_T___add__ ["self", "other"] := ⟨_, _, F14, by rw [qT]; exact a14, x14F, y14F, F14.binds (ps := ["self", "other"]) fun _ _ _ _ _ _ us hl => match us, hl with | [_, _], _ => rfl⟩
  have F15 := fun_mk (st := st_T___sub__) l15 c15 k15
  have N15 : FnMF K "__sub__" "Tally.__sub__" st_T___sub__ ["self", "other"] := ⟨_, _, F15, by rw [qT]; exact a15, x15F, y15F, F15.binds (ps := ["self", "other"]) fun _ _ _ _ _ _ us hl => match us, hl with | [_, _], _ => rfl⟩
  have F16 := fun_mk (st := st_T___or__) l16 c16 k16
  have N16 : FnMF K "__or__" "Tally.__or__" st_T___or__ ["self", "other"] := ⟨_, _, F16, by rw [qT]; exact a16, x16F, y16F, F16.binds (ps := ["self", "other"]) fun _ _ _ _ _ _ us hl => match us, hl with | [_, _], _ => rfl⟩
  have F17 := fun_mk (st := st_T___and__) l17 c17 k17
  have N17 : FnMF K "__and__" "Tally.__and__" st_T___and__ ["self", "other"] := ⟨_, _, F17, by rw [qT]; exact a17, x17F, y17F, F17.binds (ps := ["self", "other"]) fun _ _ _ _ _ _ us hl => match us, hl with | [_, _], _ => rfl⟩
  have F18 := fun_mk (st := st_L_draw) l18 c18 k18
  have N18 : Fn K mg "_law_draw" st_L_draw ["_law_tape", "_law_many"] := ⟨_, _, F18, PySem.W.mg_of X G a18, F18.binds (ps := ["_law_tape", "_law_many"]) fun _ _ _ _ _ _ us hl => match us, hl with | [_, _], _ => rfl⟩
  have F19 := fun_mk (st := st_L_of) l19 c19 k19
  have N19 : Fn K mg "_law_of" st_L_of ["_law_tape", "_law_some"] := ⟨_, _, F19, PySem.W.mg_of X G a19, F19.binds (ps := ["_law_tape", "_law_some"]) fun _ _ _ _ _ _ us hl => match us, hl with | [_, _], _ => rfl⟩
  have F20 := fun_mk (st := st_L_key) l20 c20 k20
  have N20 : Fn K mg "_law_key" st_L_key ["_law_tape"] := ⟨_, _, F20, PySem.W.mg_of X G a20, F20.binds (ps := ["_law_tape"]) fun _ _ _ _ _ _ us hl => match us, hl with | [_], _ => rfl⟩
  have F21 := fun_mk (st := st_L_near) l21 c21 k21
  have N21 : Fn K mg "_law_near" st_L_near ["_law_tape", "_law_wide"] := ⟨_, _, F21, PySem.W.mg_of X G a21, F21.binds (ps := ["_law_tape", "_law_wide"]) fun _ _ _ _ _ _ us hl => match us, hl with | [_, _], _ => rfl⟩
  have F22 := fun_mk (st := st_L_counter) l22 c22 k22
  have N22 : Fn K mg "_law_counter" st_L_counter ["_law_tape", "_law_limit", "_law_proper_so"] := ⟨_, _, F22, PySem.W.mg_of X G a22, F22.binds (ps := ["_law_tape", "_law_limit", "_law_proper_so"]) fun _ _ _ _ _ _ us hl => match us, hl with | [_, _, _], _ => rfl⟩
  have F23 := fun_mk (st := st_T_counter) l23 c23 k23
  have N23 : FnP K "counter" "Tally.counter" st_T_counter ["self"] := ⟨_, _, _, by rw [qT]; exact ⟨ap23, pg23, pt23, ⟨_, a23⟩⟩, F23, F23.binds (ps := ["self"]) fun _ _ _ _ _ _ us hl => match us, hl with | [_], _ => rfl⟩
  have F24 := fun_mk (st := st_T_of) l24 c24 k24
  have N24 : FnC K "of" "Tally.of" st_T_of ["cls", "names"] := ⟨mO24, pO24, _, _, ⟨by rw [qT]; exact rd24, by rw [qT]; exact ga24⟩, ⟨by rw [qT]; exact ac24, ⟨_, a24⟩, fi24⟩, F24, F24.binds (ps := ["cls", "names"]) fun _ _ _ _ _ _ us hl => match us, hl with | [_, _], _ => rfl⟩
  have F25 := fun_mk (st := st_T_most_common) l25 c25 k25
  have N25 : FnM K "most_common" "Tally.most_common" st_T_most_common ["self", "many"] := ⟨_, _, F25, ⟨by rw [qT]; exact a25, x25F, k25⟩, F25.binds (ps := ["self", "many"]) fun _ _ _ _ _ _ us hl => match us, hl with | [_, _], _ => rfl⟩
  have F26 := fun_mk (st := st_all_at_most) l26 c26 k26
  have N26 : Fn K mg "all_at_most" st_all_at_most ["one", "other"] := ⟨_, _, F26, PySem.W.mg_of X G a26, F26.binds (ps := ["one", "other"]) fun _ _ _ _ _ _ us hl => match us, hl with | [_, _], _ => rfl⟩
  have F27 := fun_mk (st := st_T_within) l27 c27 k27
  have N27 : FnM K "within" "Tally.within" st_T_within ["self", "other"] := ⟨_, _, F27, ⟨by rw [qT]; exact a27, x27F, k27⟩, F27.binds (ps := ["self", "other"]) fun _ _ _ _ _ _ us hl => match us, hl with | [_, _], _ => rfl⟩
  have F28 := fun_mk (st := st_L_odd_refused) l28 c28 k28
  have N28 : Fn K mg "_law_odd_refused" st_L_odd_refused ["_law_first", "_law_one", "_law_second"] := ⟨_, _, F28, PySem.W.mg_of X G a28, F28.binds (ps := ["_law_first", "_law_one", "_law_second"]) fun _ _ _ _ _ _ us hl => match us, hl with | [_, _, _], _ => rfl⟩
  have F29 := fun_mk (st := st_L_count) l29 c29 k29
  have N29 : Fn K mg "_law_count" st_L_count ["_law_way", "_law_one", "_law_other"] := ⟨_, _, F29, PySem.W.mg_of X G a29, F29.binds (ps := ["_law_way", "_law_one", "_law_other"]) fun _ _ _ _ _ _ us hl => match us, hl with | [_, _, _], _ => rfl⟩
  have F30 := fun_mk (st := st_L_joined) l30 c30 k30
  have N30 : Fn K mg "_law_joined" st_L_joined ["_law_way", "_law_one", "_law_other"] := ⟨_, _, F30, PySem.W.mg_of X G a30, F30.binds (ps := ["_law_way", "_law_one", "_law_other"]) fun _ _ _ _ _ _ us hl => match us, hl with | [_, _, _], _ => rfl⟩
  have F31 := fun_mk (st := st_turned) l31 c31 k31
  have N31 : Fn K mg "turned" st_turned ["way", "counter"] := ⟨_, _, F31, PySem.W.mg_of X G a31, F31.binds (ps := ["way", "counter"]) fun _ _ _ _ _ _ us hl => match us, hl with | [_, _], _ => rfl⟩
  have F32 := fun_mk (st := st_T___pos__) l32 c32 k32
  have N32 : FnMF K "__pos__" "Tally.__pos__" st_T___pos__ ["self"] := ⟨_, _, F32, by rw [qT]; exact a32, x32F, y32F, F32.binds (ps := ["self"]) fun _ _ _ _ _ _ us hl => match us, hl with | [_], _ => rfl⟩
  have F33 := fun_mk (st := st_L_single) l33 c33 k33
  have N33 : Fn K mg "_law_single" st_L_single ["_law_way", "_law_counter_here"] := ⟨_, _, F33, PySem.W.mg_of X G a33, F33.binds (ps := ["_law_way", "_law_counter_here"]) fun _ _ _ _ _ _ us hl => match us, hl with | [_, _], _ => rfl⟩
  have F34 := fun_mk (st := st_T___neg__) l34 c34 k34
  have N34 : FnMF K "__neg__" "Tally.__neg__" st_T___neg__ ["self"] := ⟨_, _, F34, by rw [qT]; exact a34, x34F, y34F, F34.binds (ps := ["self"]) fun _ _ _ _ _ _ us hl => match us, hl with | [_], _ => rfl⟩
  have F35 := fun_mk (st := st_L_equal) l35 c35 k35
  have N35 : Fn K mg "_law_equal" st_L_equal ["_law_one", "_law_other"] := ⟨_, _, F35, PySem.W.mg_of X G a35, F35.binds (ps := ["_law_one", "_law_other"]) fun _ _ _ _ _ _ us hl => match us, hl with | [_, _], _ => rfl⟩
  have F36 := fun_mk (st := st_L_at_most) l36 c36 k36
  have N36 : Fn K mg "_law_at_most" st_L_at_most ["_law_one", "_law_other"] := ⟨_, _, F36, PySem.W.mg_of X G a36, F36.binds (ps := ["_law_one", "_law_other"]) fun _ _ _ _ _ _ us hl => match us, hl with | [_, _], _ => rfl⟩
  have F37 := fun_mk (st := st_L_ways) l37 c37 k37
  have N37 : Fn K mg "_law_ways" st_L_ways [] := ⟨_, _, F37, PySem.W.mg_of X G a37, F37.binds (ps := []) fun _ _ _ _ _ _ us hl => match us, hl with | [], _ => rfl⟩
  have F39 := fun_mk (st := st_L_tried) l39 c39 k39
  have N39 : Fn K mg "_law_tried" st_L_tried ["_law_call"] := ⟨_, _, F39, PySem.W.mg_of X G a39, F39.binds (ps := ["_law_call"]) fun _ _ _ _ _ _ us hl => match us, hl with | [_], _ => rfl⟩
  have F40 := fun_mk (st := st_L_word) l40 c40 k40
  have N40 : Fn K mg "_law_word" st_L_word ["_law_e"] := ⟨_, _, F40, PySem.W.mg_of X G a40, F40.binds (ps := ["_law_e"]) fun _ _ _ _ _ _ us hl => match us, hl with | [_], _ => rfl⟩
  have F38 := fun_mk (st := st_law) l38 c38 k38
  refine ⟨PySem.W.fnOf "law" "law" (defArgs st_law) (defBody st_law) (defScope st_law) .none kV38 dc38 pm38 an38 cd38 ct38, _, f28, cc, PP, _, ce, cdd, cvs, csl, PySem.W.mg_of X G a28, l28, rfl, rfl, hc, hP, hh, nP, fun s v => .of_eq rfl, fun base _ _ TB => ?_⟩
  have W_word := w_L_word (P := l.prog) (w := w) (base := base) T N40
  have C_one_count := w_one_count (P := l.prog) (w := w) (base := base) T N0
  have C_joined := w_joined (P := l.prog) (w := w) (base := base) T N1 C_one_count
  have C_looked := w_looked (P := l.prog) (w := w) (base := base) T N2
  have C_T___iadd__ := w_T___iadd__ (P := l.prog) (w := w) (base := base) T N3 C_joined C_looked
  have C_with_count := w_with_count (P := l.prog) (w := w) (base := base) T N4
  have C_is_name := w_is_name (P := l.prog) (w := w) (base := base) T N5
  have C_is_integer := w_is_integer (P := l.prog) (w := w) (base := base) T N6
  have C_T___setitem__ := w_T___setitem__ (P := l.prog) (w := w) (base := base) T N7 C_with_count C_is_name C_is_integer
  have C_keys_of := w_keys_of (P := l.prog) (w := w) (base := base) T N8
  have C_all_equal := w_all_equal (P := l.prog) (w := w) (base := base) T N9 C_keys_of
  have C_Ni := w_Ni (P := l.prog) (w := w) (base := base) T N10 C_all_equal
  have C_T___eq__ := w_T___eq__ (P := l.prog) (w := w) (base := base) T N10 C_all_equal
  have C_T___bool__ := w_T___bool__ (P := l.prog) (w := w) (base := base) T N11
  have C_is_counter := w_is_counter (P := l.prog) (w := w) (base := base) T N12 C_is_name C_is_integer
  have C_T___init__ := w_T___init__ (P := l.prog) (w := w) (base := base) T ⟨by rw [qT]; exact mk1, by rw [qT]; exact a13, x13F, by rw [qT]; exact mk2⟩ F13 ⟨_, _, la0⟩ C_is_counter
  have C_T___add__ := w_T___add__ (P := l.prog) (w := w) (base := base) T N14 C_T___init__ C_joined
  have C_T___sub__ := w_T___sub__ (P := l.prog) (w := w) (base := base) T N15 C_T___init__ C_joined
  have C_T___or__ := w_T___or__ (P := l.prog) (w := w) (base := base) T N16 C_T___init__ C_joined
  have C_T___and__ := w_T___and__ (P := l.prog) (w := w) (base := base) T N17 C_T___init__ C_joined
  have C_L_draw := w_L_draw (P := l.prog) (w := w) (base := base) T N18
  have C_L_of := w_L_of (P := l.prog) (w := w) (base := base) T N19 C_L_draw
  have C_L_key := w_L_key (P := l.prog) (w := w) (base := base) T N20 C_L_of
  have C_L_near := w_L_near (P := l.prog) (w := w) (base := base) T N21 C_L_draw
  have C_L_counter := w_L_counter (P := l.prog) (w := w) (base := base) T N22 C_L_draw C_L_key C_L_near
  have C_T_counter := w_T_counter (P := l.prog) (w := w) (base := base) T N23
  have C_T_of := w_T_of (P := l.prog) (w := w) (base := base) T N24 C_T___init__ C_is_name
  have C_T_most_common := w_T_most_common (P := l.prog) (w := w) (base := base) T N25 C_is_integer
  have C_all_at_most := w_all_at_most (P := l.prog) (w := w) (base := base) T N26 C_keys_of
  have C_T_within := w_T_within (P := l.prog) (w := w) (base := base) T N27 C_all_at_most C_looked
  have C_L_odd_refused := w_L_odd_refused (P := l.prog) (w := w) (base := base) T F28 rfl (PySem.W.mg_of X G a28) (F28.binds (ps := ["_law_first", "_law_one", "_law_second"]) fun _ _ _ _ _ _ us hl => match us, hl with | [_, _, _], _ => rfl) TB C_T___eq__ C_Ni N39 W_word C_T___init__ C_T_of C_T_most_common C_T_within
  have C_L_count := w_L_count (P := l.prog) (w := w) (base := base) T N29
  have C_L_joined := w_L_joined (P := l.prog) (w := w) (base := base) T N30 C_L_count
  have C_turned := w_turned (P := l.prog) (w := w) (base := base) T N31
  have C_T___pos__ := w_T___pos__ (P := l.prog) (w := w) (base := base) T N32 C_T___init__ C_turned
  have C_L_single := w_L_single (P := l.prog) (w := w) (base := base) T N33
  have C_T___neg__ := w_T___neg__ (P := l.prog) (w := w) (base := base) T N34 C_T___init__ C_turned
  have C_L_equal := w_L_equal (P := l.prog) (w := w) (base := base) T N35
  have C_L_at_most := w_L_at_most (P := l.prog) (w := w) (base := base) T N36
  have C_L_ways := w_L_ways (P := l.prog) (w := w) (base := base) T N37
  exact w_law (P := l.prog) (w := w) (base := base) T F38 C_T___iadd__ C_T___setitem__ C_T___eq__ C_Ni C_T___bool__ C_T___init__ C_T___add__ C_T___sub__ C_T___or__ C_T___and__ C_L_counter C_T_counter C_L_key C_L_odd_refused C_L_joined C_T___pos__ C_L_single C_T___neg__ C_L_equal C_T_within C_L_at_most C_L_draw C_T_of C_L_ways
theorem walk {l : PySem.W.OpenLaw} {q : Program} {loose : List Str} {XP : (Str → Option Value) → Heap → Prop} {YP : World → Heap → Prop} {d : DefRec} {K : Params → PySem.W.Frag} (hn : l.most = some 63) (hdf : d.params.defaults = []) (hrec : ((recsOf q).any fun e => e.name == "_law_odd_refused") = true)
    (hY : ∀ (w : World) (h : Heap), YP w h → (K w.params).In h)
    (F : ∀ (w : World) (mg : Str → Option Value) (fa : Addr) (h : Heap), (K w.params).In h → h.Ns mainGlobals mg → mg d.name = some (.ref fa) →
      ∃ (fd fdr : FuncData) (fr c P : Addr) (o1 : Obj) (e : Value) (dd : Option Addr) (vs : Array Value) (sl : Array (Option Value)), mg "_law_odd_refused" = some (.ref fr) ∧ (K w.params).lookup fr = some o1 ∧ o1.data = .func fdr ∧ fdr.code = .ref c ∧ (K w.params).lookup c = some ⟨e, dd, .fields vs, sl⟩ ∧ vs[11]? = some (.ref P) ∧ PySem.W.codeHdIn (K w.params) c P = true ∧ (K w.params).lookup P = none ∧ (∀ (s : Shared) (v : Value), BindsTo s fd ⟨[v], []⟩ [("_law_script", v)]) ∧ ∀ base : Heap, (K w.params).In base → base.Ns mainGlobals mg → LamX.TabB base mg c P → FnOk l.prog w (K w.params) mg base (L2N.CX l.prog w) 9 fa fd ["_law_script"] (spT (K w.params) P m_law))
    (plain : ∀ ns : List Int, ns.length ≤ 63 → (∀ z ∈ ns, Builtin.Int.intBits z ≤ 1048576) → ∃ o, m_law [.scr ns] = .ok (.bl true) o) :
    PySem.W.WalkO q loose XP YP l.row.toRowW d [] (fun f vs => PySem.call f vs) := walkT2 (dn := "_law_odd_refused") hn hdf ⟨rfl, by decide, by decide⟩ hrec hY F plain
end
end
end Lw
namespace Dt
open PySem
@[simp] theorem ev_isiU (s : SO) (ρ : Env) : sIsiU s ρ = (s ρ).bind fun o ρ' => ofO ((o.get ρ').bind isToU) ρ' := rfl
@[simp] theorem isToU_non : isToU .non = some (.bl (["tuple"].any (isT .non))) := rfl
@[simp] theorem isToU_bl {b : Bool} : isToU (.bl b) = some (.bl (["tuple"].any (isT (.bl b)))) := rfl
@[simp] theorem isToU_int {b : Int} : isToU (.int b) = some (.bl (["tuple"].any (isT (.int b)))) := rfl
@[simp] theorem isToU_str {b : Str} : isToU (.str b) = some (.bl (["tuple"].any (isT (.str b)))) := rfl
@[simp] theorem isToU_tup {b : List D} : isToU (.tup b) = some (.bl (["tuple"].any (isT (.tup b)))) := rfl
@[simp] theorem isToU_lst {b : List D} : isToU (.lst b) = some (.bl (["tuple"].any (isT (.lst b)))) := rfl
@[simp] theorem isToU_scr {b : List Int} : isToU (.scr b) = some (.bl (["tuple"].any (isT (.scr b)))) := rfl
@[simp] theorem isToU_etup : isToU .etup = some (.bl (["tuple"].any (isT .etup))) := rfl
@[simp] theorem isToU_arg {b : List D} : isToU (.arg b) = some (.bl (["tuple"].any (isT (.arg b)))) := rfl
@[simp] theorem isToU_dct {k : List L2.Key} {b : List D} : isToU (.dct k b) = some (.bl (["tuple"].any (isT (.dct k b)))) := rfl
@[simp] theorem isToU_tal {d : D} : isToU (.tal d) = some (.bl false) := rfl
end Dt
namespace Dt
open PySem
def Ok (m : Nat) : Nat → D → Prop
  | _, .non => True
  | _, .bl _ => True
  | _, .int _ => True
  | _, .str s => s.length ≤ m ∧ ∀ c ∈ s.cps.toList, c < 128
  | n + 1, .tup ds => ds.length ≤ m ∧ ∀ d ∈ ds, Ok m n d
  | n + 1, .lst ds => ds.length ≤ m ∧ ∀ d ∈ ds, Ok m n d
  | _, _ => False
@[simp] theorem ok_non {m n : Nat} : Ok m n .non := by cases n <;> trivial
@[simp] theorem ok_bl {m n : Nat} {b : Bool} : Ok m n (.bl b) := by cases n <;> trivial
@[simp] theorem ok_int {m n : Nat} {i : Int} : Ok m n (.int i) := by cases n <;> trivial
theorem ok_str {m n : Nat} {s : Str} : Ok m n (.str s) ↔ s.length ≤ m ∧ ∀ c ∈ s.cps.toList, c < 128 := by cases n <;> exact Iff.rfl
theorem ok_tup {m n : Nat} {ds : List D} : Ok m (n + 1) (.tup ds) ↔ ds.length ≤ m ∧ ∀ d ∈ ds, Ok m n d := Iff.rfl
theorem ok_lst {m n : Nat} {ds : List D} : Ok m (n + 1) (.lst ds) ↔ ds.length ≤ m ∧ ∀ d ∈ ds, Ok m n d := Iff.rfl
theorem Ok.mono {m m' : Nat} (hm : m ≤ m') : ∀ {n n' : Nat} {d : D}, n ≤ n' → Ok m n d → Ok m' n' d := by
  intro n
  induction n with
  | zero =>
    intro n' d hn h
    cases d with
    | non => simp
    | bl _ => simp
    | int _ => simp
    | str s => rw [ok_str] at h ⊢; exact ⟨Nat.le_trans h.1 hm, h.2⟩
    | _ => exact h.elim
  | succ n ih =>
    intro n' d hn h
    cases d with
    | non => simp
    | bl _ => simp
    | int _ => simp
    | str s => rw [ok_str] at h ⊢; exact ⟨Nat.le_trans h.1 hm, h.2⟩
    | tup ds =>
      cases n' with
      | zero => omega
      | succ n' => exact ⟨Nat.le_trans h.1 hm, fun d hd => ih (by omega) (h.2 d hd)⟩
    | lst ds =>
      cases n' with
      | zero => omega
      | succ n' => exact ⟨Nat.le_trans h.1 hm, fun d hd => ih (by omega) (h.2 d hd)⟩
    | _ => exact h.elim
mutual
def D.toP : D → PyData
  | .non => .none
  | .bl b => .bool b
  | .int i => .int i
  | .str s => .str s
  | .tup ds => .tuple (D.toPs ds)
  | .lst ds => .list (D.toPs ds)
  | .dct _ _ => .none
  | .scr _ => .none
  | .arg _ => .none
  | .fn _ => .none
  | .exn _ => .none
  | .xv _ => .none
  | .xm _ _ => .none
  | .tal _ => .none
  | .etup => .none
  | .nd _ _ => .none
def D.toPs : List D → List PyData
  | [] => []
  | d :: ds => D.toP d :: D.toPs ds
end
theorem pys_of {ds : List D} (h : ∀ d ∈ ds, d.py = some d.toP) : D.pys ds = some (D.toPs ds) := by
  induction ds with
  | nil => simp [D.pys, D.toPs]
  | cons d ds ih =>
    rw [D.pys, h d List.mem_cons_self, ih fun d hd => h d (List.mem_cons_of_mem _ hd), D.toPs]
    rfl
theorem layAll_of {ds : List D} (h : ∀ d ∈ ds, d.toP.canLay0 = true) : PyData.canLayAll0 (D.toPs ds) = true := by
  induction ds with
  | nil => simp [D.toPs, PyData.canLayAll0]
  | cons d ds ih =>
    rw [D.toPs, PyData.canLayAll0, h d List.mem_cons_self, ih fun d hd => h d (List.mem_cons_of_mem _ hd)]
    rfl
theorem depthAll_of {ds : List D} {n : Nat} (h : ∀ d ∈ ds, d.toP.depth ≤ n) : PyData.depthAll (D.toPs ds) ≤ n := by
  induction ds with
  | nil => simp [D.toPs, PyData.depthAll]
  | cons d ds ih =>
    rw [D.toPs, PyData.depthAll]
    exact Nat.max_le.mpr ⟨h d List.mem_cons_self, ih fun d hd => h d (List.mem_cons_of_mem _ hd)⟩
theorem Ok.py {m : Nat} : ∀ {n : Nat} {d : D}, Ok m n d → d.py = some d.toP ∧ d.toP.canLay0 = true ∧ d.toP.depth ≤ n := by
  have str : ∀ {s : Str} {n : Nat}, (s.length ≤ m ∧ ∀ c ∈ s.cps.toList, c < 128) → (D.str s).py = some (D.str s).toP ∧ (D.str s).toP.canLay0 = true ∧ (D.str s).toP.depth ≤ n := fun {s n} h => by
    refine ⟨by simp [D.py, D.toP], ?_, by simp [D.toP, PyData.depth]⟩
    simp only [D.toP, PyData.canLay0, PyData.strOk]
    rw [Array.all_eq_true_iff_forall_mem]
    intro c hc
    have := h.2 c (by simpa using hc)
    exact decide_eq_true (by omega)
  intro n
  induction n with
  | zero =>
    intro d h
    cases d with
    | non => simp [D.py, D.toP, PyData.canLay0, PyData.depth]
    | bl _ => simp [D.py, D.toP, PyData.canLay0, PyData.depth]
    | int _ => simp [D.py, D.toP, PyData.canLay0, PyData.depth]
    | str s => exact str (ok_str.mp h)
    | _ => exact h.elim
  | succ n ih =>
    intro d h
    cases d with
    | non => simp [D.py, D.toP, PyData.canLay0, PyData.depth]
    | bl _ => simp [D.py, D.toP, PyData.canLay0, PyData.depth]
    | int _ => simp [D.py, D.toP, PyData.canLay0, PyData.depth]
    | str s => exact str (ok_str.mp h)
    | tup ds =>
      have q := fun d hd => ih (h.2 d hd)
      refine ⟨?_, ?_, ?_⟩
      · rw [D.py, pys_of fun d hd => (q d hd).1, D.toP]; rfl
      · rw [D.toP, PyData.canLay0]; exact layAll_of fun d hd => (q d hd).2.1
      · rw [D.toP, PyData.depth]; exact Nat.succ_le_succ (depthAll_of fun d hd => (q d hd).2.2)
    | lst ds =>
      have q := fun d hd => ih (h.2 d hd)
      refine ⟨?_, ?_, ?_⟩
      · rw [D.py, pys_of fun d hd => (q d hd).1, D.toP]; rfl
      · rw [D.toP, PyData.canLay0]; exact layAll_of fun d hd => (q d hd).2.1
      · rw [D.toP, PyData.depth]; exact Nat.succ_le_succ (depthAll_of fun d hd => (q d hd).2.2)
    | _ => exact h.elim
theorem Ok.shaped {m n : Nat} {d : D} (h : Ok m n d) (hn : n ≤ 64) : SeqAt.shaped d.toP = true := by
  unfold SeqAt.shaped
  rw [h.py.2.1, Bool.true_and]
  exact decide_eq_true (Nat.le_trans h.py.2.2 hn)
def D.eqv (a b : D) : Bool := PyData.eqv a.toP b.toP
theorem eqD_ok {m n m' n' : Nat} {a b : D} (ha : Ok m n a) (hb : Ok m' n' b) (hn : n ≤ 64) (hn' : n' ≤ 64) : eqD a b = some (a.eqv b) := by
  unfold eqD
  rw [ha.py.1, hb.py.1]
  simp only [Option.bind_some]
  rw [ha.shaped hn, hb.shaped hn']
  rfl
@[simp] theorem eqv_bl (a b : Bool) : (D.bl a).eqv (.bl b) = (a == b) := by simp [D.eqv, D.toP, PyData.eqv]
@[simp] theorem eqv_int (a b : Int) : (D.int a).eqv (.int b) = (a == b) := by simp [D.eqv, D.toP, PyData.eqv]
@[simp] theorem eqD_int (a b : Int) : eqD (.int a) (.int b) = some (a == b) := by rw [eqD_ok (m := 0) (n := 0) (m' := 0) (n' := 0) ok_int ok_int (by omega) (by omega), eqv_int]
@[simp] theorem eqD_bl (a b : Bool) : eqD (.bl a) (.bl b) = some (a == b) := by rw [eqD_ok (m := 0) (n := 0) (m' := 0) (n' := 0) ok_bl ok_bl (by omega) (by omega), eqv_bl]
theorem eqv_self : ∀ (n : Nat) {m : Nat} {d : D}, Ok m n d → d.eqv d = true
  | n, m, .non, _ => by simp [D.eqv, D.toP, PyData.eqv]
  | n, m, .bl b, _ => by simp
  | n, m, .int i, _ => by simp
  | n, m, .str s, _ => by simp [D.eqv, D.toP, PyData.eqv]
  | n + 1, m, .tup ds, h => by
    have go : ∀ es : List D, (∀ d ∈ es, Ok m n d) → PyData.eqvAll (D.toPs es) (D.toPs es) = true := fun es => by
      induction es with
      | nil => intro _; simp [D.toPs, PyData.eqvAll]
      | cons e es ih =>
        intro h
        have h1 : PyData.eqv e.toP e.toP = true := eqv_self n (h e (.head _))
        rw [D.toPs, PyData.eqvAll, h1, ih fun d hd => h d (.tail _ hd)]
        rfl
    show PyData.eqv (.tuple (D.toPs ds)) (.tuple (D.toPs ds)) = true
    rw [PyData.eqv]
    exact go ds h.2
  | n + 1, m, .lst ds, h => by
    have go : ∀ es : List D, (∀ d ∈ es, Ok m n d) → PyData.eqvAll (D.toPs es) (D.toPs es) = true := fun es => by
      induction es with
      | nil => intro _; simp [D.toPs, PyData.eqvAll]
      | cons e es ih =>
        intro h
        have h1 : PyData.eqv e.toP e.toP = true := eqv_self n (h e (.head _))
        rw [D.toPs, PyData.eqvAll, h1, ih fun d hd => h d (.tail _ hd)]
        rfl
    show PyData.eqv (.list (D.toPs ds)) (.list (D.toPs ds)) = true
    rw [PyData.eqv]
    exact go ds h.2
  | 0, m, .tup _, h => h.elim
  | 0, m, .lst _, h => h.elim
  | 0, m, .dct _ _, h => h.elim
  | 0, m, .scr _, h => h.elim
  | 0, m, .arg _, h => h.elim
  | 0, m, .fn _, h => h.elim
  | 0, m, .exn _, h => h.elim
  | 0, m, .xv _, h => h.elim
  | 0, m, .xm _ _, h => h.elim
  | 0, m, .tal _, h => h.elim
  | 0, m, .etup, h => h.elim
  | 0, m, .nd _ _, h => h.elim
  | _ + 1, m, .dct _ _, h => h.elim
  | _ + 1, m, .scr _, h => h.elim
  | _ + 1, m, .arg _, h => h.elim
  | _ + 1, m, .fn _, h => h.elim
  | _ + 1, m, .nd _ _, h => h.elim
theorem eqD_self {n m : Nat} {d : D} (h : Ok m n d) (hn : n ≤ 60) : eqD d d = some true := by rw [eqD_ok h h (by omega) (by omega), eqv_self n h]
end Dt
namespace Lw
open Dt PySem
/-- the law's tape: the script's numbers, the place, what is left of the cell -/
def TapeOk (t : D) : Prop := ∃ (ns : List Int) (k r : Int), t = .lst [.lst (ns.map D.int), .int k, .int r]
@[simp] theorem atI_0 {α : Type} (a b c : α) : L2.atI [a, b, c] 0 = some a := rfl
@[simp] theorem atI_1 {α : Type} (a b c : α) : L2.atI [a, b, c] 1 = some b := rfl
@[simp] theorem atI_2 {α : Type} (a b c : α) : L2.atI [a, b, c] 2 = some c := rfl
@[simp] theorem ixN_1 : L2.ixN 3 1 = some 1 := rfl
@[simp] theorem ixN_2 : L2.ixN 3 2 = some 2 := rfl
theorem atI_mod {ns : List Int} (k : Int) (h : 0 < ns.length) : ∃ c, L2.atI (ns.map D.int) (k % ns.length) = some (.int c) := by
  have h1 : 0 ≤ k % (ns.length : Int) := Int.emod_nonneg _ (by omega)
  have h2 : k % (ns.length : Int) < ns.length := Int.emod_lt_of_pos _ (by omega)
  obtain ⟨j, hj⟩ : ∃ j : Nat, k % (ns.length : Int) = j := ⟨(k % (ns.length : Int)).toNat, by omega⟩
  rw [hj] at h2 ⊢
  have hl : j < ns.length := by omega
  exact ⟨ns[j], L2.atI_nat (by simp [hl])⟩
theorem mulA_l (i j : Int) (h1 : -(2 ^ 64) < i) (h2 : i < 2 ^ 64) : CMulA i j := .inl (.inl ⟨h1, h2⟩)
theorem mulA_p (x y : Int) : CMulA (x % 2305843009213693951) y := mulA_l _ _ (by have := Int.emod_nonneg x (b := 2305843009213693951) (by decide); omega) (by have := Int.emod_lt_of_pos x (b := 2305843009213693951) (by decide); omega)
set_option maxHeartbeats 2000000 in
theorem draw_ok {t : D} {m : Int} (ht : TapeOk t) (h0 : 0 < m) (hm : m.natAbs.log2 < 9000) : ∃ v t', m_L_draw [t, .int m] = .ok (.int v) [t'] ∧ TapeOk t' ∧ 0 ≤ v ∧ v < m := by
  obtain ⟨ns, k, r, rfl⟩ := ht
  have fin : ∀ (k' x : Int), 0 ≤ x % m ∧ x % m < m ∧ TapeOk (.lst [.lst (ns.map D.int), .int k', .int (x / m)]) := fun k' x => ⟨Int.emod_nonneg _ (by omega), Int.emod_lt_of_pos _ h0, _, _, _, rfl⟩
  have c1 : ∀ x, L2.CDivW x m := fun x => ⟨h0, hm⟩
  have c2 : L2.CPow 10 18 := ⟨by decide, by decide, by decide⟩
  have c3 : ∀ x, CMulA 1000003 x := fun x => mulA_l _ _ (by decide) (by decide)
  have c4 : ∀ x, CMulA 1181783497276652981 x := fun x => mulA_l _ _ (by decide) (by decide)
  unfold m_L_draw runI b_L_draw u1_L_draw u0_L_draw
  by_cases h1 : r < m
  · by_cases h2 : 0 < ns.length
    · obtain ⟨c, hc⟩ := atI_mod k h2
      by_cases h3 : (ns.length : Int) ≤ k
      · simp [gLt, lexI, gIdx, idxD, h1, gLen, gGt, gGe, gInt, gMod, gI, putD, h2, hc, h3, gPow, c2, gMul, c3, c4, gAdd, mulA_p, gDiv, h0, c1, lastIo]
        exact ⟨_, _, ⟨rfl, rfl⟩, (fin _ _).2.2, (fin 0 _).1, (fin 0 _).2.1⟩
      · by_cases h4 : c < 10 ^ 18
        · have h4' : c < 1000000000000000000 := h4
          simp [gLt, lexI, gIdx, idxD, h1, gLen, gGt, gGe, gInt, gMod, gI, putD, h2, hc, h3, h4', gPow, c2, gMul, c3, c4, gAdd, mulA_p, gDiv, h0, c1, lastIo]
          exact ⟨_, _, ⟨rfl, rfl⟩, (fin _ _).2.2, (fin 0 _).1, (fin 0 _).2.1⟩
        · have h4' : ¬ c < 1000000000000000000 := h4
          simp [gLt, lexI, gIdx, idxD, h1, gLen, gGt, gGe, gInt, gMod, gI, putD, h2, hc, h3, h4', gPow, c2, gMul, c3, c4, gAdd, mulA_p, gDiv, h0, c1, lastIo]
          exact ⟨_, _, ⟨rfl, rfl⟩, (fin _ _).2.2, (fin 0 _).1, (fin 0 _).2.1⟩
    · have e : ns = [] := by cases ns with | nil => rfl | cons a b => simp at h2
      subst e
      by_cases h3 : (0 : Int) ≤ k
      · simp [gLt, lexI, gIdx, idxD, h1, gLen, gGt, gGe, gInt, gMod, gI, putD, h3, gPow, c2, gMul, c3, c4, gAdd, mulA_p, gDiv, h0, c1, lastIo]
        exact ⟨_, _, ⟨rfl, rfl⟩, (fin _ _).2.2, (fin 0 _).1, (fin 0 _).2.1⟩
      · simp [gLt, lexI, gIdx, idxD, h1, gLen, gGt, gGe, gInt, gMod, gI, putD, h3, gPow, c2, gMul, c3, c4, gAdd, mulA_p, gDiv, h0, c1, lastIo]
        exact ⟨_, _, ⟨rfl, rfl⟩, (fin _ _).2.2, (fin 0 _).1, (fin 0 _).2.1⟩
  · simp [gLt, lexI, gIdx, idxD, h1, gLen, gGt, gInt, gMod, gI, putD, gDiv, h0, c1, lastIo]
    exact ⟨_, _, ⟨rfl, rfl⟩, (fin _ _).2.2, (fin 0 _).1, (fin 0 _).2.1⟩
/-- .. by a written number -/
theorem draw_lit {t : D} (m : Int) (ht : TapeOk t) (h0 : 0 < m := by decide) (hm : m < 2 ^ 100 := by decide) : ∃ v t', m_L_draw [t, .int m] = .ok (.int v) [t'] ∧ TapeOk t' ∧ 0 ≤ v ∧ v < m :=
  draw_ok ht h0 (by
    have h : m.natAbs < 2 ^ 100 := by omega
    have := (Nat.log2_lt (by omega)).mpr h
    omega)
end Lw
namespace Lw
open Dt PySem
theorem line4 : (4 : Nat) ≤ sizeLine := line_pos (by decide)
theorem line5 : (5 : Nat) ≤ sizeLine := line_pos (by decide)
theorem line6 : (6 : Nat) ≤ sizeLine := line_pos (by decide)
theorem line2 : (2 : Nat) ≤ sizeLine := line_pos (by decide)
theorem line1 : (1 : Nat) ≤ sizeLine := line_pos (by decide)
theorem log_small {m : Nat} (h : m ≤ 100000) : (m : Int).natAbs.log2 < 9000 := by
  have h2 : ((m : Int)).natAbs = m := by omega
  rw [h2]
  by_cases h0 : m = 0
  · subst h0; decide
  · have := (Nat.log2_lt h0).mpr (show m < 2 ^ 100 by omega)
    omega
theorem draw_len {t : D} {m : Nat} (ht : TapeOk t) (h0 : 0 < m) (hm : m ≤ 100000) : ∃ k : Nat, ∃ t', m_L_draw [t, .int m] = .ok (.int k) [t'] ∧ TapeOk t' ∧ k < m := by
  obtain ⟨v, t', e, h, v0, v1⟩ := draw_ok ht (m := (m : Int)) (by omega) (log_small hm)
  obtain ⟨k, rfl⟩ : ∃ k : Nat, v = k := ⟨v.toNat, by omega⟩
  exact ⟨k, t', e, h, by omega⟩
theorem atI_at {α : Type} {xs : List α} {k : Nat} (h : k < xs.length) : L2.atI xs (k : Int) = some xs[k] := L2.atI_nat (by simp [h])
theorem small_line {n : Nat} (h : n ≤ 100000) : n < sizeLine := Nat.lt_of_le_of_lt h (Nat.lt_of_lt_of_le (by decide : 100000 < 100001) (line_pos (by decide)))
end Lw
namespace Dt
open PySem
/-- a loop that leaves with False at the first item that fails -/
theorem for_check {I : Env → Prop} {g : SG} {s : SS} {p : D → Bool} : ∀ {ds : List D} {ρ : Env}, (∀ d ∈ ds, ∀ ρ, I ρ → ∃ ρ1 ρ2, g d ρ = .ok () ρ1 ∧ s ρ1 = .ok (if p d = true then .nx else .rt (.bl false)) ρ2 ∧ (p d = true → I ρ2)) → I ρ →
    ∃ ρ', forGo g s ds ρ = .ok (if ds.all p = true then .nx else .rt (.bl false)) ρ' ∧ (ds.all p = true → I ρ')
  | [], ρ, _, hi => ⟨ρ, rfl, fun _ => hi⟩
  | d :: ds, ρ, h, hi => by
    obtain ⟨ρ1, ρ2, e1, e2, i2⟩ := h d (List.mem_cons_self) ρ hi
    unfold forGo
    rw [e1, R.bind_ok, e2, R.bind_ok, List.all_cons]
    cases hp : p d with
    | false => exact ⟨ρ2, rfl, fun h => by cases h⟩
    | true => exact for_check (fun d hd => h d (List.mem_cons_of_mem _ hd)) (i2 hp)
theorem bls_map (f : D → Bool) : ∀ ds : List D, blsOf (ds.map fun d => .bl (f d)) = some (ds.map f)
  | [] => rfl
  | d :: ds => by
    rw [List.map_cons, blsOf_cons, bls_map f ds]
    rfl
end Dt
namespace Lw
open Dt PySem
def isI : D → Bool
  | .int _ => true
  | _ => false
theorem int_ok {d : D} {m n : Nat} (h : Ok m n d) : m_is_integer [d] = .ok (.bl (isI d)) [] := by
  cases d <;> first | (cases n <;> exact h.elim) | simp [m_is_integer, b_is_integer, runP, isT, isTn, tyN, isI]
end Lw
namespace Lw
open Dt PySem
def low (c : Nat) : Bool := 97 ≤ c && c ≤ 122
def isN (d : D) : Bool := match d with
  | .str z => decide (1 ≤ z.length ∧ z.length ≤ 8) && z.cps.toList.all low
  | _ => false
def okB (o : Option D) (b : Bool) : Bool := match o with
  | some (.bl k) => k == b
  | _ => false
theorem okB_eq {o : Option D} {b : Bool} (h : okB o b = true) : o = some (.bl b) := by
  unfold okB at h
  split at h
  · rw [eq_of_beq h]
  · cases h
theorem in_letters (c : Nat) (h : c < 128) : gIn [.str ⟨#[c]⟩, .str "abcdefghijklmnopqrstuvwxyz"] = some (.bl (low c)) := okB_eq ((by decide +kernel : ∀ c < 128, okB (gIn [.str ⟨#[c]⟩, .str "abcdefghijklmnopqrstuvwxyz"]) (low c) = true) c h)
def lowD (d : D) : Bool := match d with
  | .str z => z.cps.toList.all low
  | _ => false
theorem signs_low (z : Str) : (signs z).all lowD = z.cps.toList.all low := by
  unfold signs
  rw [List.all_map]
  congr 1
  funext c
  simp [lowD]
theorem signs_len (z : Str) : (signs z).length = z.length := by
  unfold signs
  rw [List.length_map]
  exact Array.length_toList
theorem sign_of {z : Str} {d : D} (h : d ∈ signs z) (ha : ∀ c ∈ z.cps.toList, c < 128) : ∃ c, c < 128 ∧ d = .str ⟨#[c]⟩ ∧ lowD d = low c := by
  unfold signs at h
  obtain ⟨c, hc, rfl⟩ := List.mem_map.mp h
  exact ⟨c, ha c hc, rfl, by simp [lowD]⟩
theorem comp_name {z : Str} (hz : z.length ≤ 1000) (ha : ∀ c ∈ z.cps.toList, c < 128) : c0_is_name [.fro (.str z), .no] = .ok (.lst ((signs z).map fun d => .bl (lowD d))) [.fro (.str z), .no] := by
  have e := comp_map (vs := [1]) (g := gSet 1) (t := tT1) (s := sOps gIn (b2 (sLoc 1) (sVal (sCst (.str "abcdefghijklmnopqrstuvwxyz"))))) (f := fun d => .bl (lowD d)) (p := fun _ => true) (ρ := [.fro (.str z), .no]) (ds := signs z)
    (fun d hd => ⟨[.fro (.str z), .fro d], [.fro (.str z), .fro d], by simp, rfl, by simp [plainAt], by simp [wipeE], fun _ => ⟨[.fro (.str z), .fro d], by
      obtain ⟨c, hc, rfl, e⟩ := sign_of hd ha
      simp [in_letters c hc, e], by simp [plainAt], by simp [wipeE]⟩⟩)
  have hl : (signs z).length ≤ sizeLine := line_pos (by rw [signs_len]; omega)
  have hf : (signs z).filter (fun _ => true) = signs z := List.filter_eq_self.mpr (by simp)
  rw [hf] at e
  unfold c0_is_name sComp
  simp [itemsD, plainAt, hl, wipeE, e, backE]
theorem name_ok {d : D} {m n : Nat} (h : Ok m n d) (hm : m ≤ 1000) : m_is_name [d] = .ok (.bl (isN d)) [] := by
  show runP 2 1 b_is_name _ = _
  unfold runP b_is_name
  cases d with
  | str z =>
    obtain ⟨hz, ha⟩ := ok_str.mp h
    have s0 : z.length ≤ sizeLine := line_pos (by omega)
    have e := comp_name (z := z) (by omega) ha
    by_cases h1 : 1 ≤ z.length
    case neg =>
      have h1' : ¬ 1 ≤ (z.length : Int) := by omega
      simp [isT, isTn, tyN, gLen, gLe, lexI, s0, h1', h1, isN, D.truth]
    have h1' : 1 ≤ (z.length : Int) := by omega
    by_cases h8 : z.length ≤ 8
    case neg =>
      have h8' : ¬ (z.length : Int) ≤ 8 := by omega
      simp [isT, isTn, tyN, gLen, gLe, lexI, s0, h1', h1, h8, h8', isN, D.truth]
    have h8' : (z.length : Int) ≤ 8 := by omega
    have hs := signs_low z
    simp [isT, isTn, tyN, gLen, gLe, lexI, s0, h1', h1, h8, h8', isN, D.truth, e, gAll, bls_map]
    rw [hs]
    simp
  | fn _ => cases n <;> exact h.elim
  | exn _ => cases n <;> exact h.elim
  | xv _ => cases n <;> exact h.elim
  | xm _ _ => cases n <;> exact h.elim
  | tal _ => cases n <;> exact h.elim
  | etup => cases n <;> exact h.elim
  | nd _ _ => cases n <;> exact h.elim
  | _ => simp [isT, isTn, tyN, isN, D.truth]
end Lw
namespace Dt
open PySem
theorem wipe_set {ρ : Env} {i : Nat} {c : Cell} (h : ρ[i]? = some .no) : wipeE (ρ.set i c) [i] = ρ := by
  have hi : i < ρ.length := by
    cases Nat.lt_or_ge i ρ.length with
    | inl h => exact h
    | inr h' => rw [List.getElem?_eq_none h'] at h; cases h
  simp only [wipeE, List.set_set]
  apply List.ext_getElem?
  intro j
  by_cases e : i = j
  · subst e; rw [List.getElem?_set_self hi, h]
  · simp [e]
theorem plain_set {ρ : Env} {i : Nat} {d : D} (h : ρ[i]? = some .no) : plainAt (ρ.set i (.fro d)) [i] = true := by
  have hi : i < ρ.length := by
    cases Nat.lt_or_ge i ρ.length with
    | inl h => exact h
    | inr h' => rw [List.getElem?_eq_none h'] at h; cases h
  simp [plainAt, hi]
theorem set_gSet {ρ : Env} {i : Nat} {d : D} (h : ρ[i]? = some .no) : gSet i d ρ = .ok () (ρ.set i (.fro d)) := by
  rw [ev_gSet, h]
/-- .. over coded items -/
theorem comp1e {α : Type} {enc : α → D} {i : Nat} {s : SE} {ρ : Env} {xs : List α} (F : α → D) (h0 : ρ[i]? = some .no)
    (h : ∀ x ∈ xs, s (ρ.set i (.fro (enc x))) = .ok (F x) (ρ.set i (.fro (enc x)))) : compGo [i] (gSet i) tT1 s (xs.map enc) ρ = .ok (xs.map F) ρ := by
  induction xs with
  | nil => rfl
  | cons x xs ih =>
    rw [List.map_cons]
    unfold compGo
    rw [set_gSet h0, R.bind_ok]
    show (s _).bind _ = _
    rw [h x (.head _), R.bind_ok, if_pos (plain_set h0), wipe_set h0, ih fun y hy => h y (.tail _ hy)]
    rfl
theorem comp1f {α : Type} {enc : α → D} {i : Nat} {t : ST} {s : SE} {ρ : Env} {xs : List α} (F : α → D) (p : α → Bool) (h0 : ρ[i]? = some .no)
    (h : ∀ x ∈ xs, t (ρ.set i (.fro (enc x))) = .ok (p x) (ρ.set i (.fro (enc x))) ∧ (p x = true → s (ρ.set i (.fro (enc x))) = .ok (F x) (ρ.set i (.fro (enc x))))) : compGo [i] (gSet i) t s (xs.map enc) ρ = .ok ((xs.filter p).map F) ρ := by
  induction xs with
  | nil => rfl
  | cons x xs ih =>
    have ih := ih fun y hy => h y (.tail _ hy)
    obtain ⟨h1, h2⟩ := h x (.head _)
    rw [List.map_cons]
    unfold compGo
    rw [set_gSet h0, R.bind_ok, h1, R.bind_ok]
    cases hp : p x with
    | false =>
      show (if plainAt _ _ = true then _ else _) = _
      rw [if_pos (plain_set h0), wipe_set h0, ih, List.filter_cons_of_neg (by simp [hp])]
    | true =>
      show (s _).bind _ = _
      rw [h2 hp, R.bind_ok, if_pos (plain_set h0), wipe_set h0, ih, List.filter_cons_of_pos (by simp [hp])]
      rfl
end Dt
namespace Dt
open PySem
/-- a cell that is no object of one's own -/
def pl : Option D → Cell
  | none => .no
  | some d => .fro d
/-- what may be set anew -/
def soft : Option Cell → Bool
  | some (.io _) => false
  | none => false
  | _ => true
@[simp] theorem soft_pl (x : Option D) : soft (some (pl x)) = true := by cases x <;> rfl
@[simp] theorem soft_no : soft (some .no) = true := rfl
@[simp] theorem soft_fro (d : D) : soft (some (.fro d)) = true := rfl
@[simp] theorem soft_own (d : D) : soft (some (.own d)) = true := rfl
/-- plain cells alone -/
def PlnA (cs : List Cell) : Prop := ∀ c ∈ cs, ∃ x, c = pl x
@[simp] theorem plnA_nil : PlnA [] := fun _ h => nomatch h
@[simp] theorem plnA_cons {c : Cell} {cs : List Cell} : PlnA (c :: cs) ↔ (∃ x, c = pl x) ∧ PlnA cs := List.forall_mem_cons
@[simp] theorem pln_fro (d : D) : ∃ x, Cell.fro d = pl x := ⟨some d, rfl⟩
@[simp] theorem pln_no : ∃ x, Cell.no = pl x := ⟨none, rfl⟩
@[simp] theorem pln_pl (y : Option D) : ∃ x, pl y = pl x := ⟨y, rfl⟩
theorem PlnA.map {cs : List Cell} (h : PlnA cs) : ∃ xs : List (Option D), cs = xs.map pl := by
  induction cs with
  | nil => exact ⟨[], rfl⟩
  | cons c cs ih =>
    obtain ⟨⟨x, rfl⟩, h2⟩ := plnA_cons.mp h
    obtain ⟨xs, rfl⟩ := ih h2
    exact ⟨x :: xs, rfl⟩
/-- what a comprehension's own cell may hold -/
def plainC : Option Cell → Bool
  | some .no => true
  | some (.fro _) => true
  | _ => false
@[simp] theorem plainC_pl (x : Option D) : plainC (some (pl x)) = true := by cases x <;> rfl
@[simp] theorem plainC_no : plainC (some .no) = true := rfl
@[simp] theorem plainC_fro (d : D) : plainC (some (.fro d)) = true := rfl
theorem plain_nil {ρ : Env} : plainAt ρ [] = true := rfl
theorem plain_cons {ρ : Env} {v : Nat} {vs : List Nat} : plainAt ρ (v :: vs) = (plainC ρ[v]? && plainAt ρ vs) := by
  unfold plainAt plainC
  rw [List.all_cons]
  all_goals (congr 1)
/-- a cell that may be set anew -/
inductive Sl | n | f (d : D) | o (d : D)
def sf : Sl → Cell
  | .n => .no
  | .f d => .fro d
  | .o d => .own d
@[simp] theorem soft_sf (x : Sl) : soft (some (sf x)) = true := by cases x <;> rfl
@[simp] theorem sf_no : ∃ x, Cell.no = sf x := ⟨.n, rfl⟩
@[simp] theorem sf_fro (d : D) : ∃ x, Cell.fro d = sf x := ⟨.f d, rfl⟩
@[simp] theorem sf_own (d : D) : ∃ x, Cell.own d = sf x := ⟨.o d, rfl⟩
@[simp] theorem sf_sf (y : Sl) : ∃ x, sf y = sf x := ⟨y, rfl⟩
@[simp] theorem sf_pl (y : Option D) : ∃ x, pl y = sf x := by
  cases y with
  | none => exact ⟨.n, rfl⟩
  | some d => exact ⟨.f d, rfl⟩
/-- plain where told so, else such as may be set anew -/
def Fits : List Bool → List Cell → Prop
  | [], [] => True
  | true :: bs, c :: cs => (∃ x, c = pl x) ∧ Fits bs cs
  | false :: bs, c :: cs => (∃ x, c = sf x) ∧ Fits bs cs
  | _, _ => False
@[simp] theorem fits_nil : Fits [] [] = True := rfl
@[simp] theorem fits_t {bs : List Bool} {c : Cell} {cs : List Cell} : Fits (true :: bs) (c :: cs) = ((∃ x, c = pl x) ∧ Fits bs cs) := rfl
@[simp] theorem fits_f {bs : List Bool} {c : Cell} {cs : List Cell} : Fits (false :: bs) (c :: cs) = ((∃ x, c = sf x) ∧ Fits bs cs) := rfl
theorem Fits.t {bs : List Bool} {cs : List Cell} (h : Fits (true :: bs) cs) : ∃ x cs', cs = pl x :: cs' ∧ Fits bs cs' := by
  cases cs with
  | nil => exact h.elim
  | cons c cs => obtain ⟨⟨x, rfl⟩, h⟩ := h; exact ⟨x, cs, rfl, h⟩
theorem Fits.f {bs : List Bool} {cs : List Cell} (h : Fits (false :: bs) cs) : ∃ x cs', cs = sf x :: cs' ∧ Fits bs cs' := by
  cases cs with
  | nil => exact h.elim
  | cons c cs => obtain ⟨⟨x, rfl⟩, h⟩ := h; exact ⟨x, cs, rfl, h⟩
theorem seq_nx {a b : SS} {ρ ρ' : Env} (h : a ρ = .ok .nx ρ') : sSeq a b ρ = b ρ' := by rw [ev_seq, h]; rfl
/-- a statement that goes on, to where Q holds -/
def Ends (r : R Fl) (Q : Env → Prop) : Prop := ∃ ρ', r = .ok .nx ρ' ∧ Q ρ'
theorem Ends.seq {a b : SS} {ρ ρ' : Env} {Q : Env → Prop} (h : a ρ = .ok .nx ρ') (k : Ends (b ρ') Q) : Ends (sSeq a b ρ) Q := by
  unfold Ends; rw [seq_nx h]; exact k
theorem Ends.one {s : SS} {ρ ρ' : Env} {Q : Env → Prop} (h : s ρ = .ok .nx ρ') (q : Q ρ') : Ends (s ρ) Q := ⟨ρ', h, q⟩
end Dt
namespace Lw
open Dt PySem
theorem add_lst {a b : List D} (h : a.length + b.length ≤ 100000) : gAdd [.lst a, .lst b] = some (.lst (a ++ b)) := by
  show (if a.length + b.length ≤ sizeLine then some (D.lst (a ++ b)) else none) = _
  rw [if_pos (line_pos (by omega))]
theorem add_tup {a b : List D} (h : a.length + b.length ≤ 100000) : gAdd [.tup a, .tup b] = some (.tup (a ++ b)) := by
  show (if a.length + b.length ≤ sizeLine then some (D.tup (a ++ b)) else none) = _
  rw [if_pos (line_pos (by omega))]
end Lw
namespace Dt
open PySem
theorem foldl_kind : ∀ (l σ : List Str), l.Nodup → l.foldl kindS σ = σ ++ l.filter fun k => !decide (k ∈ σ)
  | [], σ, _ => by simp
  | x :: l, σ, h => by
    obtain ⟨h1, h2⟩ := List.nodup_cons.mp h
    rw [List.foldl_cons, foldl_kind l _ h2]
    unfold kindS
    by_cases hx : x ∈ σ
    · rw [if_pos hx, List.filter_cons_of_neg (by simp [hx])]
    · rw [if_neg hx, List.filter_cons_of_pos (by simp [hx]), List.append_assoc, List.singleton_append]
      congr 2
      refine List.filter_congr fun y hy => ?_
      have : y ≠ x := fun e => h1 (e ▸ hy)
      simp [this]
theorem kinds_nd {l : List Str} (h : l.Nodup) : kinds l = l := by
  unfold kinds
  rw [foldl_kind l [] h]
  simp
@[simp] theorem keyOf_str (x : Str) : keyOf (.str x) = some (.inr x) := rfl
theorem dPut_kind (σ : List Str) (vs : List D) (x : Str) (z : D) : (dPut (σ.map Sum.inr) vs (Sum.inr x) z).1 = (kindS σ x).map (Sum.inr (α := Int)) := by
  have e : ((σ.map (Sum.inr (α := Int))).any fun k' => decide (k' = Sum.inr x)) = decide (x ∈ σ) := by
    rw [Bool.eq_iff_iff, List.any_eq_true, decide_eq_true_iff]
    constructor
    · rintro ⟨k, hk, e⟩
      obtain ⟨y, hy, rfl⟩ := List.mem_map.mp hk
      have e := of_decide_eq_true e
      cases e
      exact hy
    · exact fun h => ⟨_, List.mem_map.mpr ⟨x, h, rfl⟩, by simp⟩
  unfold dPut kindS
  rw [e]
  by_cases h : x ∈ σ
  · rw [if_pos (by simpa using h), if_pos h]
  · rw [if_neg (by simpa using h), if_neg h, List.map_append]
    rfl
end Dt
namespace Lw
open Dt PySem
/-- a text that is a name -/
def NmOk (x : Str) : Prop := (x.length ≤ 8 ∧ ∀ c ∈ x.cps.toList, c < 128) ∧ isN (.str x) = true
end Lw
namespace Lw
open Dt PySem
theorem of_ok {t : D} {ds : List D} (h : TapeOk t) (h0 : 0 < ds.length) (h1 : ds.length ≤ 100000) : ∃ k t', ∃ hk : k < ds.length, m_L_of [t, .lst ds] = .ok ds[k] [t'] ∧ TapeOk t' := by
  obtain ⟨k, t', e, h', hk⟩ := draw_len h h0 h1
  refine ⟨k, t', hk, ?_, h'⟩
  show runI 2 2 b_L_of [t, .lst ds] = _
  unfold runI b_L_of
  simp [gLen, e, gIdx, idxD, atI_at hk, lastIo]
end Lw
namespace Dt
open PySem
abbrev CL := List (Str × Int)
def keysC (C : CL) : List Str := C.map (·.1)
def look : CL → Str → Option Int
  | [], _ => none
  | p :: C, x => if p.1 = x then some p.2 else look C x
def val (C : CL) (x : Str) : Int := (look C x).getD 0
def mkC (ks : List Str) (f : Str → Option Int) : CL := ks.filterMap fun k => (f k).map fun c => (k, c)
def restK (A B : CL) : List Str := (keysC B).filter fun k => !decide (k ∈ keysC A)
def allK (A B : CL) : List Str := keysC A ++ restK A B
def joinC (w : Option Int → Option Int → Option Int) (A B : CL) : CL := mkC (allK A B) fun k => w (look A k) (look B k)
def posO (x : Int) : Option Int := if 0 < x then some x else none
def turnC (s : Int) (C : CL) : CL := C.filterMap fun p => (posO (s * p.2)).map fun c => (p.1, c)
def ctS (s : Int) : Option Int → Option Int → Option Int
  | none, none => none
  | a, b => some (a.getD 0 + s * b.getD 0)
def ctP (f : Int → Int → Int) : Option Int → Option Int → Option Int
  | none, none => none
  | a, b => posO (f (a.getD 0) (b.getD 0))
def mx (i j : Int) : Int := if j > i then j else i
def mn (i j : Int) : Int := if j < i then j else i
def ctL : Option Int → Option Int → Option Int
  | none, _ => none
  | a, b => posO (mn (a.getD 0) (b.getD 0))
def leastC := joinC ctL
/-- a counter whose keys the law draws, of at most so many keys -/
structure CV (P : Str → Prop) (n : Nat) (C : CL) : Prop where
  nd : (keysC C).Nodup
  keys : ∀ x ∈ keysC C, P x
  len : C.length ≤ n
def Prp (C : CL) : Prop := ∀ p ∈ C, 1 ≤ p.2
theorem look_cons {p : Str × Int} {C : CL} {x : Str} : look (p :: C) x = if p.1 = x then some p.2 else look C x := rfl
theorem look_none {C : CL} {x : Str} : look C x = none ↔ x ∉ keysC C := by
  induction C with
  | nil => simp [look, keysC]
  | cons p C ih =>
    unfold look
    by_cases h : p.1 = x
    · rw [if_pos h]; simp [keysC, h]
    · rw [if_neg h, ih]; simp [keysC, Ne.symm h]
theorem mem_allK {A B : CL} {x : Str} : x ∈ allK A B ↔ x ∈ keysC A ∨ x ∈ keysC B := by
  unfold allK restK
  rw [List.mem_append, List.mem_filter]
  by_cases h : x ∈ keysC A <;> simp [h]
theorem keys_mk {ks : List Str} {f : Str → Option Int} : (keysC (mkC ks f)).Sublist ks := by
  induction ks with
  | nil => exact List.Sublist.slnil
  | cons k ks ih =>
    unfold mkC keysC at ih ⊢
    rw [List.filterMap_cons]
    cases f k with
    | none => exact ih.cons _
    | some c => exact ih.cons₂ _
theorem keys_turn {s : Int} {C : CL} : (keysC (turnC s C)).Sublist (keysC C) := by
  induction C with
  | nil => exact List.Sublist.slnil
  | cons p C ih =>
    unfold turnC keysC at ih ⊢
    rw [List.filterMap_cons]
    cases posO (s * p.2) with
    | none => exact ih.cons _
    | some c => exact ih.cons₂ _
theorem nd_allK {A B : CL} (a : (keysC A).Nodup) (b : (keysC B).Nodup) : (allK A B).Nodup := by
  unfold allK restK
  refine List.nodup_append.mpr ⟨a, b.sublist List.filter_sublist, fun x hx y hy e => ?_⟩
  subst e
  have := (List.mem_filter.mp hy).2
  simp [hx] at this
theorem len_keys {C : CL} : (keysC C).length = C.length := List.length_map ..
theorem CV.mono {P : Str → Prop} {n m : Nat} {C : CL} (h : CV P n C) (l : n ≤ m) : CV P m C := ⟨h.nd, h.keys, Nat.le_trans h.len l⟩
theorem CV.imp {P Q : Str → Prop} {n : Nat} {C : CL} (h : CV P n C) (w : ∀ x, P x → Q x) : CV Q n C := ⟨h.nd, fun x hx => w x (h.keys x hx), h.len⟩
theorem CV.join {P : Str → Prop} {n m : Nat} {A B : CL} (a : CV P n A) (b : CV P m B) (w : Option Int → Option Int → Option Int) : CV P (n + m) (joinC w A B) := by
  refine ⟨(nd_allK a.nd b.nd).sublist keys_mk, fun x hx => ?_, ?_⟩
  · rcases mem_allK.mp (keys_mk.subset hx) with h | h
    · exact a.keys x h
    · exact b.keys x h
  · show (joinC w A B).length ≤ n + m
    have h1 : (mkC (allK A B) fun k => w (look A k) (look B k)).length ≤ (allK A B).length := List.length_filterMap_le ..
    have h2 : (restK A B).length ≤ (keysC B).length := List.length_filter_le ..
    have h3 : (allK A B).length = (keysC A).length + (restK A B).length := List.length_append
    rw [len_keys] at h2 h3
    have := a.len
    have := b.len
    unfold joinC
    omega
theorem CV.turn {P : Str → Prop} {n : Nat} {C : CL} (h : CV P n C) (s : Int) : CV P n (turnC s C) :=
  ⟨h.nd.sublist keys_turn, fun x hx => h.keys x (keys_turn.subset hx), Nat.le_trans (List.length_filterMap_le ..) h.len⟩
theorem CV.nil {P : Str → Prop} {n : Nat} : CV P n [] := ⟨List.nodup_nil, fun _ h => (nomatch h), Nat.zero_le _⟩
theorem mk_append {ks ls : List Str} {f : Str → Option Int} : mkC (ks ++ ls) f = mkC ks f ++ mkC ls f := List.filterMap_append ..
theorem Prp.turn {C : CL} : Prp (turnC 1 C) := fun p hp => by
  obtain ⟨q, _, e⟩ := List.mem_filterMap.mp hp
  unfold posO at e
  split at e
  · cases e; show 1 ≤ 1 * q.2; omega
  · cases e
theorem Prp.join {f : Int → Int → Int} {A B : CL} : Prp (joinC (ctP f) A B) := fun p hp => by
  unfold joinC mkC at hp
  obtain ⟨k, _, e⟩ := List.mem_filterMap.mp hp
  have pos : ∀ x : Int, (posO x).map (fun c => (k, c)) = some p → 1 ≤ p.2 := fun x e => by
    unfold posO at e
    split at e
    · cases e; show 1 ≤ x; omega
    · cases e
  have e : (ctP f (look A k) (look B k)).map (fun c => (k, c)) = some p := e
  revert e
  cases look A k <;> cases look B k <;> intro e <;> first | exact pos _ e | cases e
theorem Prp.least {A B : CL} : Prp (leastC A B) := fun p hp => by
  unfold leastC joinC mkC at hp
  obtain ⟨k, _, e⟩ := List.mem_filterMap.mp hp
  have pos : ∀ x : Int, (posO x).map (fun c => (k, c)) = some p → 1 ≤ p.2 := fun x e => by
    unfold posO at e
    split at e
    · cases e; show 1 ≤ x; omega
    · cases e
  have e : (ctL (look A k) (look B k)).map (fun c => (k, c)) = some p := e
  revert e
  cases look A k <;> intro e <;> first | exact pos _ e | cases e
end Dt
namespace Dt
open PySem
end Dt
namespace Lw
open Dt PySem
@[simp] theorem atI_c0 {α : Type} (a : α) (as : List α) : L2.atI (a :: as) 0 = some a := (L2.atI_nat (xs := a :: as) (j := 0) rfl : L2.atI (a :: as) ((0 : Nat) : Int) = some a)
theorem atI_c1 {α : Type} (a b : α) : L2.atI [a, b] 1 = some b := rfl
theorem ge3 (n : Nat) : ((n : Int) + 1 + 1 + 1 == 2) = false := by
  have : (n : Int) + 1 + 1 + 1 ≠ 2 := by omega
  simpa using this
def rowC (d : D) : Bool := match d with
  | .tup [k, i] => isN k && isI i
  | _ => false
def keyS (d : D) : Str := match d with
  | .tup [.str z, _] => z
  | _ => Str.empty
def cntS (d : D) : Bool := match d with
  | .tup ds => ds.all rowC && decide ((kinds (ds.map keyS)).length = ds.length)
  | _ => false
theorem rowC_form {d : D} (h : rowC d = true) : ∃ z i, d = .tup [.str z, .int i] ∧ keyS d = z := by
  unfold rowC at h
  split at h
  · rename_i k i
    rw [Bool.and_eq_true] at h
    obtain ⟨h1, h2⟩ := h
    cases k with
    | str z =>
      cases i with
      | int i => exact ⟨z, i, rfl, rfl⟩
      | _ => cases h2
    | _ => cases h1
  · cases h
theorem row_prog {th r : D} {m n : Nat} (h : Ok m n r) (hm : m ≤ 1000) : t0_is_counter [.fro th, .fro r] = .ok (if rowC r = true then .nx else .rt (.bl false)) [.fro th, .fro r] := by
  unfold t0_is_counter
  cases r with
  | tup ds =>
    rcases ds with _ | ⟨a, _ | ⟨b, _ | ⟨c, q⟩⟩⟩
    · simp [isT, isTn, tyN, gLen, gNe, rowC]
    · simp [isT, isTn, tyN, gLen, gNe, rowC]
    · obtain ⟨n, rfl⟩ : ∃ j, n = j + 1 := by
        cases n with
        | zero => exact h.elim
        | succ n => exact ⟨n, rfl⟩
      have oa := (ok_tup.mp h).2 a (by simp)
      have ea := name_ok oa hm
      have eb := int_ok ((ok_tup.mp h).2 b (by simp))
      cases ha : isN a with
      | false =>
        rw [ha] at ea
        simp [isT, isTn, tyN, gLen, gNe, gIdx, idxD, atI_c1, rowC, ha, ea, D.truth]
      | true =>
        rw [ha] at ea
        cases hb : isI b with
        | false =>
          rw [hb] at eb
          simp [isT, isTn, tyN, gLen, gNe, gIdx, idxD, atI_c1, rowC, ha, hb, ea, eb, D.truth]
        | true =>
          rw [hb] at eb
          simp [isT, isTn, tyN, gLen, gNe, gIdx, idxD, atI_c1, rowC, ha, hb, ea, eb, D.truth]
    · simp [isT, isTn, tyN, gLen, gNe, rowC, ge3]
  | arg _ => cases n <;> exact h.elim
  | fn _ => cases n <;> exact h.elim
  | exn _ => cases n <;> exact h.elim
  | xv _ => cases n <;> exact h.elim
  | xm _ _ => cases n <;> exact h.elim
  | tal _ => cases n <;> exact h.elim
  | etup => cases n <;> exact h.elim
  | nd _ _ => cases n <;> exact h.elim
  | _ => simp [isT, isTn, tyN, rowC]
theorem dict_go {th : D} : ∀ (rows : List D) (σ : List Str) (vs : List D), (∀ r ∈ rows, rowC r = true) →
    ∃ vs', dcompGo [1] (gSet 1) tT1 (sOps gIdx (b2 (sLoc 1) (sVal (sCst (.int 0))))) (sCst (.bl true)) rows (σ.map Sum.inr, vs) [.fro th, .no] = .ok (((rows.map keyS).foldl kindS σ).map Sum.inr, vs') [.fro th, .no]
  | [], σ, vs, _ => ⟨vs, rfl⟩
  | r :: rows, σ, vs, h => by
    obtain ⟨z, i, rfl, e⟩ := rowC_form (h r (.head _))
    have g : gSet 1 (.tup [.str z, .int i]) [.fro th, .no] = .ok () [.fro th, .fro (.tup [.str z, .int i])] := by simp
    have k : sOps gIdx (b2 (sLoc 1) (sVal (sCst (.int 0)))) [.fro th, .fro (.tup [.str z, .int i])] = .ok (.str z) [.fro th, .fro (.tup [.str z, .int i])] := by simp [gIdx, idxD]
    obtain ⟨vs', ih⟩ := dict_go (th := th) rows (kindS σ z) (dPut (σ.map Sum.inr) vs (Sum.inr z) (.bl true)).2 fun r hr => h r (.tail _ hr)
    refine ⟨vs', ?_⟩
    unfold dcompGo
    rw [g, R.bind_ok]
    rw [show tT1 [.fro th, .fro (.tup [.str z, .int i])] = .ok true [.fro th, .fro (.tup [.str z, .int i])] from rfl, R.bind_ok]
    dsimp only
    rw [k, R.bind_ok, ev_cst, R.bind_ok]
    dsimp only [keyOf]
    rw [if_pos (by simp [plainAt]), List.map_cons, List.foldl_cons, e]
    have w : dPut (σ.map Sum.inr) vs (Sum.inr z) (.bl true) = ((kindS σ z).map Sum.inr, (dPut (σ.map Sum.inr) vs (Sum.inr z) (.bl true)).2) := by
      rw [← dPut_kind σ vs z (.bl true)]
    rw [w]
    exact ih
theorem comp_dict {ds : List D} {c : Cell} (hc : c = .no ∨ ∃ d, c = .fro d) (hl : ds.length ≤ 100000) (h : ds.all rowC = true) : ∃ vs, c0_is_counter [.fro (.tup ds), c] = .ok (.dct ((kinds (ds.map keyS)).map Sum.inr) vs) [.fro (.tup ds), c] := by
  obtain ⟨vs, e⟩ := dict_go (th := .tup ds) ds [] [] fun r hr => List.all_eq_true.mp h r hr
  have hs : ds.length ≤ sizeLine := line_pos (by omega)
  have e' : dcompGo [1] (gSet 1) tT1 (sOps gIdx (b2 (sLoc 1) (sVal (sCst (.int 0))))) (sCst (.bl true)) ds ([], []) [.fro (.tup ds), .no] = .ok ((kinds (ds.map keyS)).map Sum.inr, vs) [.fro (.tup ds), .no] := e
  refine ⟨vs, ?_⟩
  unfold c0_is_counter sDComp
  rcases hc with rfl | ⟨x, rfl⟩ <;> simp [itemsD, plainAt, hs, wipeE, e', backE, noX]
theorem loop_cells {ds : List D} {m n : Nat} {s : SS} (ho : ∀ d ∈ ds, Ok m n d) (hr : ∀ {th r : D}, Ok m n r → s [.fro th, .fro r] = .ok (if rowC r = true then .nx else .rt (.bl false)) [.fro th, .fro r]) :
    ∃ ρ, forGo (gSet 1) s ds [.fro (.tup ds), .no] = .ok (if ds.all rowC = true then .nx else .rt (.bl false)) ρ ∧ (ds.all rowC = true → ∃ c, ρ = [.fro (.tup ds), c] ∧ (c = .no ∨ ∃ d, c = .fro d)) :=
  for_check (I := fun ρ => ∃ c, ρ = [.fro (.tup ds), c] ∧ (c = .no ∨ ∃ d, c = .fro d)) (p := rowC)
    (fun d hd ρ ⟨c, hρ, hc⟩ => ⟨[.fro (.tup ds), .fro d], [.fro (.tup ds), .fro d], by subst hρ; rcases hc with rfl | ⟨x, rfl⟩ <;> simp, hr (ho d hd), fun _ => ⟨.fro d, rfl, .inr ⟨d, rfl⟩⟩⟩) ⟨.no, rfl, .inl rfl⟩
theorem cnt_ok {d : D} {m n : Nat} (h : Ok m n d) (hm : m ≤ 1000) : m_is_counter [d] = .ok (.bl (cntS d)) [] := by
  show runP 2 1 b_is_counter _ = _
  unfold runP b_is_counter l0_is_counter sFor
  cases d with
  | tup ds =>
    obtain ⟨n, rfl⟩ : ∃ j, n = j + 1 := by
      cases n with
      | zero => exact h.elim
      | succ n => exact ⟨n, rfl⟩
    obtain ⟨hl, hd⟩ := ok_tup.mp h
    obtain ⟨ρ, e, hρ⟩ := loop_cells (s := t0_is_counter) hd fun {th r} ho => row_prog (th := th) ho hm
    cases ha : ds.all rowC with
    | false =>
      rw [ha] at e
      simp [isT, isTn, tyN, itemsD, e, cntS, ha, D.truth]
    | true =>
      obtain ⟨c, rfl, hc⟩ := hρ ha
      rw [ha, if_pos rfl] at e
      obtain ⟨vs, e2⟩ := comp_dict hc (by omega) ha
      simp [isT, isTn, tyN, itemsD, e, cntS, ha, D.truth, e2, gLen, gEq]
      exact Bool.eq_iff_iff.mpr (by rw [decide_eq_true_iff, beq_iff_eq]; omega)
  | arg _ => cases n <;> exact h.elim
  | fn _ => cases n <;> exact h.elim
  | exn _ => cases n <;> exact h.elim
  | xv _ => cases n <;> exact h.elim
  | xm _ _ => cases n <;> exact h.elim
  | tal _ => cases n <;> exact h.elim
  | etup => cases n <;> exact h.elim
  | nd _ _ => cases n <;> exact h.elim
  | _ => simp [isT, isTn, tyN, cntS, D.truth]
end Lw
namespace Dt
open PySem
/-- the counts, with one put -/
def putC (σ : List Str) (cs : List Int) (x : Str) (v : Int) : List Int := if x ∈ σ then List.zipWith (fun k c => if k = x then v else c) σ cs else cs ++ [v]
theorem dPut_cnt (σ : List Str) (cs : List Int) (x : Str) (v : Int) : dPut (σ.map Sum.inr) (cs.map D.int) (Sum.inr x) (.int v) = ((kindS σ x).map (Sum.inr (α := Int)), (putC σ cs x v).map D.int) := by
  have e : ((σ.map (Sum.inr (α := Int))).any fun k' => decide (k' = Sum.inr x)) = decide (x ∈ σ) := by
    rw [Bool.eq_iff_iff, List.any_eq_true, decide_eq_true_iff]
    constructor
    · rintro ⟨k, hk, e⟩
      obtain ⟨y, hy, rfl⟩ := List.mem_map.mp hk
      have e := of_decide_eq_true e
      cases e
      exact hy
    · exact fun h => ⟨_, List.mem_map.mpr ⟨x, h, rfl⟩, by simp⟩
  unfold dPut kindS putC
  rw [e]
  by_cases h : x ∈ σ
  · rw [if_pos (by simpa using h), if_pos h, if_pos h]
    refine Prod.ext rfl ?_
    show List.zipWith _ (σ.map Sum.inr) (cs.map D.int) = (List.zipWith _ σ cs).map D.int
    rw [List.zipWith_map_left, List.zipWith_map_right, List.map_zipWith]
    congr 1
    funext k c
    by_cases hk : k = x
    · simp [hk]
    · have : ¬ (Sum.inr k : L2.Key) = Sum.inr x := fun q => hk (Sum.inr.inj q)
      rw [if_neg hk, if_neg this]
  · rw [if_neg (by simpa using h), if_neg h, if_neg h, List.map_append, List.map_append]
    rfl
/-- a counter's keys and counts -/
structure CntV (P : Str → Prop) (R : Int → Prop) (k : Nat) (σ : List Str) (cs : List Int) : Prop where
  nd : σ.Nodup
  keys : ∀ x ∈ σ, P x
  len : σ.length = cs.length
  cnts : ∀ c ∈ cs, R c
  most : σ.length ≤ k
theorem CntV.nil {P : Str → Prop} {R : Int → Prop} {k : Nat} : CntV P R k [] [] := ⟨List.nodup_nil, by simp, rfl, by simp, Nat.zero_le _⟩
theorem CntV.put {P : Str → Prop} {R : Int → Prop} {k : Nat} {σ : List Str} {cs : List Int} (h : CntV P R k σ cs) {x : Str} {v : Int} (hx : P x) (hv : R v) : CntV P R (k + 1) (kindS σ x) (putC σ cs x v) := by
  obtain ⟨nd, keys, len, cnts, most⟩ := h
  refine ⟨?_, fun y hy => (mem_kindS.mp hy).elim (keys y) fun e => e ▸ hx, ?_, fun c hc => ?_, ?_⟩
  · unfold kindS
    split
    · exact nd
    · rename_i hn
      exact List.nodup_append.mpr ⟨nd, by simp, fun a ha b hb e => hn (by rw [List.mem_singleton.mp hb] at e; rw [← e]; exact ha)⟩
  · rw [len_kindS]
    unfold putC
    split
    · rw [List.length_zipWith, ← len, Nat.min_self]
    · rw [List.length_append, len]; rfl
  · unfold putC at hc
    split at hc
    · obtain ⟨k, c', hm, rfl⟩ : ∃ k c', c' ∈ cs ∧ (if k = x then v else c') = c := by
        clear len keys nd most
        induction σ generalizing cs with
        | nil => cases hc
        | cons s σ ih =>
          cases cs with
          | nil => cases hc
          | cons d cs =>
            rw [List.zipWith_cons_cons] at hc
            rcases List.mem_cons.mp hc with rfl | hc
            · exact ⟨s, d, .head _, rfl⟩
            · rename_i hin
              by_cases hs : x ∈ σ
              · obtain ⟨k, c', m, e⟩ := ih (fun c h => cnts c (.tail _ h)) hs hc
                exact ⟨k, c', .tail _ m, e⟩
              · have go : ∀ (σ : List Str) (cs : List Int), c ∈ List.zipWith (fun k c => if k = x then v else c) σ cs → ∃ k c', c' ∈ cs ∧ (if k = x then v else c') = c := fun σ => by
                  induction σ with
                  | nil => intro cs h; cases h
                  | cons s σ ih2 =>
                    intro cs h
                    cases cs with
                    | nil => cases h
                    | cons d cs =>
                      rw [List.zipWith_cons_cons] at h
                      rcases List.mem_cons.mp h with rfl | h
                      · exact ⟨s, d, .head _, rfl⟩
                      · obtain ⟨k, c', m, e⟩ := ih2 cs h
                        exact ⟨k, c', .tail _ m, e⟩
                obtain ⟨k, c', m, e⟩ := go σ cs hc
                exact ⟨k, c', .tail _ m, e⟩
      split
      · exact hv
      · exact cnts _ hm
    · rcases List.mem_append.mp hc with hc | hc
      · exact cnts c hc
      · rw [List.mem_singleton.mp hc]; exact hv
  · rw [len_kindS]
    split <;> omega
/-- the tuple of pairs -/
def cntT (σ : List Str) (cs : List Int) : List D := List.zipWith (fun k c => .tup [.str k, .int c]) σ cs
theorem pairs_cnt : ∀ (σ : List Str) (cs : List Int), pairsD (σ.map Sum.inr) (cs.map D.int) = cntT σ cs
  | [], _ => rfl
  | _ :: _, [] => rfl
  | k :: σ, c :: cs => by
    have ih := pairs_cnt σ cs
    unfold pairsD cntT at ih ⊢
    rw [List.map_cons, List.map_cons, List.zipWith_cons_cons, List.zipWith_cons_cons, ih]
    rfl
end Dt
namespace Lw
open Dt PySem
theorem near_ok {t : D} {w : Int} (h : TapeOk t) (w0 : 0 ≤ w) (w1 : w ≤ 100000000000000000000) : ∃ v t', m_L_near [t, .int w] = .ok (.int v) [t'] ∧ TapeOk t' ∧ -w ≤ v ∧ v ≤ w := by
  have c := mulA_l 2 w (by decide) (by decide)
  obtain ⟨v, t', e, h', v0, v1⟩ := draw_lit (2 * w + 1) h (by omega) (by omega)
  refine ⟨v - w, t', ?_, h', by omega, by omega⟩
  show runI 2 2 b_L_near [t, .int w] = _
  unfold runI b_L_near
  simp [gMul, c, gAdd, e, gSub, gI, lastIo]
def keyW : List Str := ["x", "y", "z", "w", "add", "zzzzzzzz"]
theorem key_ok {t : D} (h : TapeOk t) : ∃ x t', m_L_key [t] = .ok (.str x) [t'] ∧ TapeOk t' ∧ x ∈ keyW := by
  obtain ⟨k, t', hk, e, h'⟩ := of_ok (ds := [.str "x", .str "y", .str "z", .str "w", .str "add", .str "zzzzzzzz"]) h (by simp) (by simp)
  have : ∃ x, x ∈ keyW ∧ ([.str "x", .str "y", .str "z", .str "w", .str "add", .str "zzzzzzzz"] : List D)[k] = .str x := by
    have hk' : k < 6 := by simpa using hk
    match k, hk' with
    | 0, _ => exact ⟨"x", by simp [keyW], rfl⟩
    | 1, _ => exact ⟨"y", by simp [keyW], rfl⟩
    | 2, _ => exact ⟨"z", by simp [keyW], rfl⟩
    | 3, _ => exact ⟨"w", by simp [keyW], rfl⟩
    | 4, _ => exact ⟨"add", by simp [keyW], rfl⟩
    | 5, _ => exact ⟨"zzzzzzzz", by simp [keyW], rfl⟩
  obtain ⟨x, hx, ex⟩ := this
  rw [ex] at e
  refine ⟨x, t', ?_, h', hx⟩
  show runI 1 1 b_L_key [t] = _
  unfold runI b_L_key
  simp [e, lastIo, line6]
def CntR (p : Bool) (c : Int) : Prop := -100000000000000000000 ≤ c ∧ c ≤ 100000000000000000000 ∧ (p = true → 1 ≤ c)
theorem cnt_turn {t d : D} {lim : Cell} {p : Bool} {σ : List Str} {cs : List Int} {k : Nat} {c5 : Cell} (h : TapeOk t) (v : CntV (· ∈ keyW) (CntR p) k σ cs) (hk : k ≤ 1000) (h5 : c5 = .no ∨ ∃ x, c5 = .fro x) :
    ∃ t' σ' cs' x5, t0_L_counter [.io t, lim, .fro (.bl p), .own (.dct (σ.map Sum.inr) (cs.map D.int)), .fro d, c5] = .ok .nx [.io t', lim, .fro (.bl p), .own (.dct (σ'.map Sum.inr) (cs'.map D.int)), .fro d, .fro x5] ∧ TapeOk t' ∧ CntV (· ∈ keyW) (CntR p) (k + 1) σ' cs' := by
  obtain ⟨a, t1, e1, h1, a0, a3⟩ := draw_lit 3 h
  obtain ⟨w, ew, w0, w1⟩ : ∃ w : Int, L2.atI [D.int 2, .int 5, .int 100000000000000000000] a = some (.int w) ∧ 2 ≤ w ∧ w ≤ 100000000000000000000 := by
    have : a = 0 ∨ a = 1 ∨ a = 2 := by omega
    rcases this with rfl | rfl | rfl
    · exact ⟨2, rfl, by decide, by decide⟩
    · exact ⟨5, rfl, by decide, by decide⟩
    · exact ⟨_, rfl, by decide, by decide⟩
  have cp : L2.CPow 10 20 := ⟨by decide, by decide, by decide⟩
  have hs : σ.length < sizeLine := Nat.lt_of_le_of_lt v.most (small_line (by omega))
  cases p with
  | true =>
    obtain ⟨b, t2, e2, h2, b0, b1⟩ := draw_lit w h1 (by omega) (by omega)
    obtain ⟨x, t3, e3, h3, hx⟩ := key_ok h2
    have nv := v.put (x := x) (v := 1 + b) hx ⟨by omega, by omega, fun _ => by omega⟩
    refine ⟨t3, kindS σ x, putC σ cs x (1 + b), .int w, ?_, h3, nv⟩
    unfold t0_L_counter
    rcases h5 with rfl | ⟨z, rfl⟩ <;> simp [e1, gPow, gI, cp, gIdx, idxD, ew, D.truth, e2, gAdd, e3, putD, hs, dPut_cnt, line_pos]
  | false =>
    obtain ⟨b, t2, e2, h2, b0, b1⟩ := near_ok h1 (w := w) (by omega) w1
    obtain ⟨x, t3, e3, h3, hx⟩ := key_ok h2
    have nv := v.put (x := x) (v := b) hx ⟨by omega, by omega, fun q => by cases q⟩
    refine ⟨t3, kindS σ x, putC σ cs x b, .int w, ?_, h3, nv⟩
    unfold t0_L_counter
    rcases h5 with rfl | ⟨z, rfl⟩ <;> simp [e1, gPow, gI, cp, gIdx, idxD, ew, D.truth, e2, e3, putD, hs, dPut_cnt, line_pos]
theorem cnt_loop {lim : Cell} {p : Bool} : ∀ (ds : List D) {t : D} {σ : List Str} {cs : List Int} {k : Nat} {c4 c5 : Cell}, TapeOk t → CntV (· ∈ keyW) (CntR p) k σ cs → k + ds.length ≤ 1000 → (c4 = .no ∨ ∃ x, c4 = .fro x) → (c5 = .no ∨ ∃ x, c5 = .fro x) →
    ∃ t' σ' cs' c4' c5', forGo (gSet 4) t0_L_counter ds [.io t, lim, .fro (.bl p), .own (.dct (σ.map Sum.inr) (cs.map D.int)), c4, c5] = .ok .nx [.io t', lim, .fro (.bl p), .own (.dct (σ'.map Sum.inr) (cs'.map D.int)), c4', c5'] ∧ TapeOk t' ∧ CntV (· ∈ keyW) (CntR p) (k + ds.length) σ' cs'
  | [], t, σ, cs, k, c4, c5, h, v, _, _, _ => ⟨t, σ, cs, c4, c5, rfl, h, v⟩
  | d :: ds, t, σ, cs, k, c4, c5, h, v, hk, h4, h5 => by
    rw [List.length_cons] at hk
    obtain ⟨t1, σ1, cs1, x5, e1, h1, v1⟩ := cnt_turn (d := d) (lim := lim) h v (by omega) h5
    obtain ⟨t2, σ2, cs2, c4', c5', e2, h2, v2⟩ := cnt_loop (lim := lim) ds (c4 := .fro d) (c5 := .fro x5) h1 v1 (by omega) (.inr ⟨d, rfl⟩) (.inr ⟨x5, rfl⟩)
    refine ⟨t2, σ2, cs2, c4', c5', ?_, h2, by rw [List.length_cons, show k + (ds.length + 1) = k + 1 + ds.length by omega]; exact v2⟩
    unfold forGo
    have g : gSet 4 d [.io t, lim, .fro (.bl p), .own (.dct (σ.map Sum.inr) (cs.map D.int)), c4, c5] = .ok () [.io t, lim, .fro (.bl p), .own (.dct (σ.map Sum.inr) (cs.map D.int)), .fro d, c5] := by
      rcases h4 with rfl | ⟨x, rfl⟩ <;> simp
    rw [g, R.bind_ok, e1, R.bind_ok]
    exact e2
theorem counter_ok {t : D} {lim : Nat} {p : Bool} (h : TapeOk t) (hl : lim ≤ 900) : ∃ σ cs t', m_L_counter [t, .int lim, .bl p] = .ok (.tup (cntT σ cs)) [t'] ∧ TapeOk t' ∧ CntV (· ∈ keyW) (CntR p) lim σ cs := by
  obtain ⟨k, t1, e1, h1, hk⟩ := draw_len (m := lim + 1) h (by omega) (by omega)
  obtain ⟨t2, σ, cs, c4, c5, e2, h2, v2⟩ := cnt_loop (lim := .fro (.int lim)) (p := p) (upto 0 k) (σ := []) (cs := []) (k := 0) (c4 := .no) (c5 := .no) h1 CntV.nil (by simp [upto]; omega) (.inl rfl) (.inl rfl)
  refine ⟨σ, cs, t2, ?_, h2, ⟨v2.nd, v2.keys, v2.len, v2.cnts, Nat.le_trans v2.most (by simp [upto]; omega)⟩⟩
  have e1' : m_L_draw [t, .int ((lim : Int) + 1)] = .ok (.int k) [t1] := e1
  have hr : rng1D [.int (k : Int)] = some (upto 0 k) := by simp [rng1D]; omega
  show runI 6 3 b_L_counter _ = _
  unfold runI b_L_counter l0_L_counter sFor
  simp at e2
  simp [gAdd, e1', hr, e2, gTupItems, pairs_cnt, lastIo]
end Lw
namespace Dt
open PySem
def cD (p : Str × Int) : D := .tup [.str p.1, .int p.2]
def cT (C : CL) : D := .tup (C.map cD)
def oD : Option Int → D
  | none => .non
  | some i => .int i
theorem cntT_zip : ∀ (σ : List Str) (cs : List Int), cntT σ cs = (σ.zip cs).map cD
  | [], _ => rfl
  | _ :: _, [] => rfl
  | k :: σ, c :: cs => by
    have ih := cntT_zip σ cs
    unfold cntT at ih ⊢
    rw [List.zipWith_cons_cons, List.zip_cons_cons, List.map_cons, ih]
    rfl
theorem CntV.cv {P : Str → Prop} {R : Int → Prop} {k : Nat} {σ : List Str} {cs : List Int} (h : CntV P R k σ cs) : CV P k (σ.zip cs) := by
  have e : keysC (σ.zip cs) = σ := List.map_fst_zip (Nat.le_of_eq h.len)
  exact ⟨by rw [e]; exact h.nd, by rw [e]; exact h.keys, by rw [List.length_zip]; have := h.most; omega⟩
theorem CntV.all {P : Str → Prop} {R : Int → Prop} {k : Nat} {σ : List Str} {cs : List Int} (h : CntV P R k σ cs) : ∀ p ∈ σ.zip cs, R p.2 := fun p hp => h.cnts _ (List.of_mem_zip (a := p.1) (b := p.2) hp).2
/-- the counter as a dict -/
def dC (C : CL) : D := .dct ((keysC C).map Sum.inr) (C.map fun p => .int p.2)
theorem dict_go_cv : ∀ (B A : CL), (keysC (A ++ B)).Nodup → dictGo (B.map cD) ((keysC A).map Sum.inr, A.map fun p => .int p.2) = some ((keysC (A ++ B)).map Sum.inr, (A ++ B).map fun p => .int p.2)
  | [], A, _ => by rw [List.append_nil]; rfl
  | p :: B, A, h => by
    have e : A ++ p :: B = (A ++ [p]) ++ B := by simp
    have ih := dict_go_cv B (A ++ [p]) (by rw [← e]; exact h)
    rw [← e] at ih
    have hp : p.1 ∉ keysC A := fun hm => by
      have h' : (keysC A ++ (p.1 :: keysC B)).Nodup := by unfold keysC at h ⊢; rw [List.map_append, List.map_cons] at h; exact h
      exact (List.nodup_append.mp h').2.2 p.1 hm p.1 (.head _) rfl
    have w := dPut_cnt (keysC A) (A.map (·.2)) p.1 p.2
    rw [List.map_map] at w
    have w2 : dPut ((keysC A).map Sum.inr) (A.map fun p => D.int p.2) (Sum.inr p.1) (.int p.2) = ((keysC (A ++ [p])).map Sum.inr, (A ++ [p]).map fun p => D.int p.2) := by
      refine Eq.trans w ?_
      unfold kindS putC
      rw [if_neg hp, if_neg hp]
      unfold keysC
      simp [Function.comp_def]
    rw [List.map_cons]
    show dictGo (.tup [.str p.1, .int p.2] :: B.map cD) _ = _
    unfold dictGo
    rw [keyOf_str, Option.bind_some]
    dsimp only
    rw [w2]
    exact ih
theorem gDict_cv {P : Str → Prop} {n : Nat} {C : CL} (h : CV P n C) : gDict [cT C] = some (dC C) := by
  show (dictGo (C.map cD) ([], [])).map _ = _
  have := dict_go_cv C [] h.nd
  rw [show (([] : List L2.Key), ([] : List D)) = ((keysC []).map Sum.inr, ([] : CL).map fun p => .int p.2) from rfl, this]
  rfl
theorem look_dct (C : CL) (x : Str) : dLook ((keysC C).map Sum.inr) (C.map fun p => .int p.2) (Sum.inr x) = (look C x).map D.int := by
  induction C with
  | nil => rfl
  | cons p C ih =>
    show dLook (Sum.inr p.1 :: (keysC C).map Sum.inr) (D.int p.2 :: C.map fun p => .int p.2) (Sum.inr x) = _
    unfold dLook
    rw [look_cons]
    by_cases e : p.1 = x
    · rw [if_pos (by rw [e]), if_pos e]; rfl
    · rw [if_neg (fun z => e (Sum.inr.inj z)), if_neg e, ih]
theorem look_non (C : CL) (x : Str) : (dLook ((keysC C).map Sum.inr) (C.map fun p => .int p.2) (Sum.inr x)).getD .non = oD (look C x) := by
  rw [look_dct]; cases look C x <;> rfl
theorem look_val (C : CL) (x : Str) : (dLook ((keysC C).map Sum.inr) (C.map fun p => .int p.2) (Sum.inr x)).getD (.int 0) = .int (val C x) := by
  rw [look_dct]; unfold val; cases look C x <;> rfl
theorem look_in (C : CL) (x : Str) : (dLook ((keysC C).map Sum.inr) (C.map fun p => .int p.2) (Sum.inr x)).isSome = decide (x ∈ keysC C) := by
  rw [look_dct, Option.isSome_map, Bool.eq_iff_iff, decide_eq_true_iff]
  cases e : look C x with
  | none => simp [look_none.mp e]
  | some c =>
    have : x ∈ keysC C := Decidable.byContradiction fun z => by rw [look_none.mpr z] at e; cases e
    simp [this]
theorem keys_str (C : CL) : ((keysC C).map (Sum.inr (α := Int))).map keyD = (keysC C).map D.str := by rw [List.map_map]; rfl
@[simp] theorem q_add_update : eqD (.str "add") (.str "update") = some false := by decide +kernel
@[simp] theorem q_add_subtract : eqD (.str "add") (.str "subtract") = some false := by decide +kernel
@[simp] theorem q_add_least : eqD (.str "add") (.str "least") = some false := by decide +kernel
@[simp] theorem q_add_add : eqD (.str "add") (.str "add") = some true := by decide +kernel
@[simp] theorem q_add_less : eqD (.str "add") (.str "less") = some false := by decide +kernel
@[simp] theorem q_add_most : eqD (.str "add") (.str "most") = some false := by decide +kernel
@[simp] theorem q_less_update : eqD (.str "less") (.str "update") = some false := by decide +kernel
@[simp] theorem q_less_subtract : eqD (.str "less") (.str "subtract") = some false := by decide +kernel
@[simp] theorem q_less_least : eqD (.str "less") (.str "least") = some false := by decide +kernel
@[simp] theorem q_less_add : eqD (.str "less") (.str "add") = some false := by decide +kernel
@[simp] theorem q_less_less : eqD (.str "less") (.str "less") = some true := by decide +kernel
@[simp] theorem q_less_most : eqD (.str "less") (.str "most") = some false := by decide +kernel
@[simp] theorem q_most_update : eqD (.str "most") (.str "update") = some false := by decide +kernel
@[simp] theorem q_most_subtract : eqD (.str "most") (.str "subtract") = some false := by decide +kernel
@[simp] theorem q_most_least : eqD (.str "most") (.str "least") = some false := by decide +kernel
@[simp] theorem q_most_add : eqD (.str "most") (.str "add") = some false := by decide +kernel
@[simp] theorem q_most_less : eqD (.str "most") (.str "less") = some false := by decide +kernel
@[simp] theorem q_most_most : eqD (.str "most") (.str "most") = some true := by decide +kernel
@[simp] theorem q_least_update : eqD (.str "least") (.str "update") = some false := by decide +kernel
@[simp] theorem q_least_subtract : eqD (.str "least") (.str "subtract") = some false := by decide +kernel
@[simp] theorem q_least_least : eqD (.str "least") (.str "least") = some true := by decide +kernel
@[simp] theorem q_least_add : eqD (.str "least") (.str "add") = some false := by decide +kernel
@[simp] theorem q_least_less : eqD (.str "least") (.str "less") = some false := by decide +kernel
@[simp] theorem q_least_most : eqD (.str "least") (.str "most") = some false := by decide +kernel
@[simp] theorem q_update_update : eqD (.str "update") (.str "update") = some true := by decide +kernel
@[simp] theorem q_update_subtract : eqD (.str "update") (.str "subtract") = some false := by decide +kernel
@[simp] theorem q_update_least : eqD (.str "update") (.str "least") = some false := by decide +kernel
@[simp] theorem q_update_add : eqD (.str "update") (.str "add") = some false := by decide +kernel
@[simp] theorem q_update_less : eqD (.str "update") (.str "less") = some false := by decide +kernel
@[simp] theorem q_update_most : eqD (.str "update") (.str "most") = some false := by decide +kernel
@[simp] theorem q_subtract_update : eqD (.str "subtract") (.str "update") = some false := by decide +kernel
@[simp] theorem q_subtract_subtract : eqD (.str "subtract") (.str "subtract") = some true := by decide +kernel
@[simp] theorem q_subtract_least : eqD (.str "subtract") (.str "least") = some false := by decide +kernel
@[simp] theorem q_subtract_add : eqD (.str "subtract") (.str "add") = some false := by decide +kernel
@[simp] theorem q_subtract_less : eqD (.str "subtract") (.str "less") = some false := by decide +kernel
@[simp] theorem q_subtract_most : eqD (.str "subtract") (.str "most") = some false := by decide +kernel
@[simp] theorem q_plus_plus : eqD (.str "plus") (.str "plus") = some true := by decide +kernel
@[simp] theorem q_minus_plus : eqD (.str "minus") (.str "plus") = some false := by decide +kernel
end Dt
namespace Lw
open Dt PySem
abbrev CK (n : Nat) (C : CL) : Prop := CV NmOk n C
theorem keyW_ok {x : Str} (h : x ∈ keyW) : NmOk x := by
  unfold keyW at h
  simp only [List.mem_cons, List.not_mem_nil, or_false] at h
  rcases h with rfl | rfl | rfl | rfl | rfl | rfl <;> (unfold NmOk; decide +kernel)
theorem cv_row {n : Nat} {C : CL} (h : CK n C) {p : Str × Int} (hp : p ∈ C) : NmOk p.1 := h.keys _ (List.mem_map.mpr ⟨p, hp, rfl⟩)
theorem cv_ok {n : Nat} {C : CL} (h : CK n C) (hn : n ≤ 1000) : Ok 1000 2 (cT C) := by
  refine ok_tup.mpr ⟨by rw [List.length_map]; have := h.len; omega, fun d hd => ?_⟩
  obtain ⟨p, hp, rfl⟩ := List.mem_map.mp hd
  refine ok_tup.mpr ⟨by simp, fun d hd => ?_⟩
  simp only [List.mem_cons, List.not_mem_nil, or_false] at hd
  rcases hd with rfl | rfl
  · exact (ok_str (m := 8) (n := 0).mpr (cv_row h hp).1).mono (by decide) (by decide)
  · exact ok_int
theorem cnt_yes {n : Nat} {C : CL} (h : CK n C) (hn : n ≤ 1000) : m_is_counter [cT C] = .ok (.bl true) [] := by
  rw [cnt_ok (cv_ok h hn) (by decide)]
  have e : cntS (cT C) = true := by
    unfold cT cntS
    dsimp only
    rw [Bool.and_eq_true]
    constructor
    · rw [List.all_map, List.all_eq_true]
      intro p hp
      show isN (.str p.1) && isI (.int p.2) = true
      rw [(cv_row h hp).2]
      rfl
    · rw [List.map_map, decide_eq_true_iff]
      have : C.map (keyS ∘ cD) = keysC C := rfl
      rw [this, kinds_nd h.nd, len_keys, List.length_map]
  rw [e]
theorem mul_1 (j : Int) : CMulA 1 j := mulA_l _ _ (by decide) (by decide)
theorem mul_m (j : Int) : CMulA (-1) j := mulA_l _ _ (by decide) (by decide)
theorem oD_n : oD none = .non := rfl
theorem oD_s (i : Int) : oD (some i) = .int i := rfl
theorem gMax2_mx (i j : Int) : gMax2 [.int i, .int j] = some (.int (mx i j)) := rfl
theorem gMin2_mn (i j : Int) : gMin2 [.int i, .int j] = some (.int (mn i j)) := rfl
theorem fin_pos (a b c d e f : Cell) (X : Int) : sRet (sIf (sTst (sOps gGt (b2 (sLoc 6) (sVal (sCst (.int 0)))))) (sVar 6) (sCst .non)) [a, b, c, d, e, f, .fro (.int X)] = .ok (.rt (oD (posO X))) [a, b, c, d, e, f, .fro (.int X)] := by
  by_cases h : 0 < X <;> simp [gGt, lexI, h, posO, oD]
theorem one_add (a b : Option Int) : m_one_count [.str "add", oD a, oD b] = .ok (oD ((ctP fun a b => a + b) a b)) [] := by
  show runP 7 3 b_one_count _ = _
  have hf := fin_pos
  unfold runP b_one_count i0_one_count
  generalize sRet (sIf (sTst (sOps gGt (b2 (sLoc 6) (sVal (sCst (.int 0)))))) (sVar 6) (sCst .non)) = l at hf ⊢
  cases a <;> cases b <;> simp [oD_n, oD_s, gEq, gIs, isD, gAdd, gSub, gI, gMul, gNeg, mul_1, mul_m, gMax2_mx, gMin2_mn, ctP, ctL, ctS, hf]
theorem one_less (a b : Option Int) : m_one_count [.str "less", oD a, oD b] = .ok (oD ((ctP fun a b => a - b) a b)) [] := by
  show runP 7 3 b_one_count _ = _
  have hf := fin_pos
  unfold runP b_one_count i0_one_count
  generalize sRet (sIf (sTst (sOps gGt (b2 (sLoc 6) (sVal (sCst (.int 0)))))) (sVar 6) (sCst .non)) = l at hf ⊢
  cases a <;> cases b <;> simp [oD_n, oD_s, gEq, gIs, isD, gAdd, gSub, gI, gMul, gNeg, mul_1, mul_m, gMax2_mx, gMin2_mn, ctP, ctL, ctS, hf]
theorem one_most (a b : Option Int) : m_one_count [.str "most", oD a, oD b] = .ok (oD ((ctP mx) a b)) [] := by
  show runP 7 3 b_one_count _ = _
  have hf := fin_pos
  unfold runP b_one_count i0_one_count
  generalize sRet (sIf (sTst (sOps gGt (b2 (sLoc 6) (sVal (sCst (.int 0)))))) (sVar 6) (sCst .non)) = l at hf ⊢
  cases a <;> cases b <;> simp [oD_n, oD_s, gEq, gIs, isD, gAdd, gSub, gI, gMul, gNeg, mul_1, mul_m, gMax2_mx, gMin2_mn, ctP, ctL, ctS, hf]
theorem one_least (a b : Option Int) : m_one_count [.str "least", oD a, oD b] = .ok (oD (ctL a b)) [] := by
  show runP 7 3 b_one_count _ = _
  have hf := fin_pos
  unfold runP b_one_count i0_one_count
  generalize sRet (sIf (sTst (sOps gGt (b2 (sLoc 6) (sVal (sCst (.int 0)))))) (sVar 6) (sCst .non)) = l at hf ⊢
  cases a <;> cases b <;> simp [oD_n, oD_s, gEq, gIs, isD, gAdd, gSub, gI, gMul, gNeg, mul_1, mul_m, gMax2_mx, gMin2_mn, ctP, ctL, ctS, hf]
theorem one_update (a b : Option Int) : m_one_count [.str "update", oD a, oD b] = .ok (oD ((ctS 1) a b)) [] := by
  show runP 7 3 b_one_count _ = _
  have hf := fin_pos
  unfold runP b_one_count i0_one_count
  generalize sRet (sIf (sTst (sOps gGt (b2 (sLoc 6) (sVal (sCst (.int 0)))))) (sVar 6) (sCst .non)) = l at hf ⊢
  cases a <;> cases b <;> simp [oD_n, oD_s, gEq, gIs, isD, gAdd, gSub, gI, gMul, gNeg, mul_1, mul_m, gMax2_mx, gMin2_mn, ctP, ctL, ctS, hf]
theorem one_subtract (a b : Option Int) : m_one_count [.str "subtract", oD a, oD b] = .ok (oD ((ctS (-1)) a b)) [] := by
  show runP 7 3 b_one_count _ = _
  have hf := fin_pos
  unfold runP b_one_count i0_one_count
  generalize sRet (sIf (sTst (sOps gGt (b2 (sLoc 6) (sVal (sCst (.int 0)))))) (sVar 6) (sCst .non)) = l at hf ⊢
  cases a <;> cases b <;> simp [oD_n, oD_s, gEq, gIs, isD, gAdd, gSub, gI, gMul, gNeg, mul_1, mul_m, gMax2_mx, gMin2_mn, ctP, ctL, ctS, hf]
theorem join_turn {way : Str} {w : Option Int → Option Int → Option Int} (hw : ∀ a b, m_one_count [.str way, oD a, oD b] = .ok (oD (w a b)) []) {A B : CL} {x' y' : Cell} {acc : List D} {k : Str} {c7 : Cell} (hl : acc.length < 5000) (h7 : c7 = .no ∨ ∃ d, c7 = .fro d) :
    ∃ d7, t0_joined [.fro (.str way), x', y', .own (.lst acc), .fro (.str k), .fro (dC A), .fro (dC B), c7] = .ok .nx [.fro (.str way), x', y', .own (.lst (acc ++ (mkC [k] fun k => w (look A k) (look B k)).map cD)), .fro (.str k), .fro (dC A), .fro (dC B), .fro d7] := by
  have hs : acc.length < sizeLine := small_line (by omega)
  refine ⟨oD (w (look A k) (look B k)), ?_⟩
  have hm : mkC [k] (fun k => w (look A k) (look B k)) = match w (look A k) (look B k) with | some c => [(k, c)] | none => [] := by
    unfold mkC
    rw [List.filterMap_cons]
    dsimp only
    cases w (look A k) (look B k) <;> rfl
  rw [hm]
  unfold t0_joined dC
  cases hv : w (look A k) (look B k) <;> rcases h7 with rfl | ⟨z, rfl⟩ <;> simp [look_non, hw, hv, oD_n, oD_s, gIsNot, isD, line2, mAppend, hs, cD]
theorem join_loop {way : Str} {w : Option Int → Option Int → Option Int} (hw : ∀ a b, m_one_count [.str way, oD a, oD b] = .ok (oD (w a b)) []) {A B : CL} {x' y' : Cell} : ∀ (ks : List Str) {acc : List D} {c4 c7 : Cell}, acc.length + ks.length < 5000 → (c4 = .no ∨ ∃ d, c4 = .fro d) → (c7 = .no ∨ ∃ d, c7 = .fro d) →
    ∃ c4' c7', forGo (gSet 4) t0_joined (ks.map D.str) [.fro (.str way), x', y', .own (.lst acc), c4, .fro (dC A), .fro (dC B), c7] = .ok .nx [.fro (.str way), x', y', .own (.lst (acc ++ (mkC ks fun k => w (look A k) (look B k)).map cD)), c4', .fro (dC A), .fro (dC B), c7']
  | [], acc, c4, c7, _, _, _ => ⟨c4, c7, by simp [forGo, mkC]⟩
  | k :: ks, acc, c4, c7, hl, h4, h7 => by
    rw [List.length_cons] at hl
    obtain ⟨d7, e1⟩ := join_turn (x' := x') (y' := y') hw (A := A) (B := B) (acc := acc) (k := k) (c7 := c7) (by omega) h7
    have ll : ((mkC [k] fun k => w (look A k) (look B k)).map cD).length ≤ 1 := by
      rw [List.length_map]; exact List.length_filterMap_le ..
    obtain ⟨c4', c7', e2⟩ := join_loop hw (A := A) (B := B) (x' := x') (y' := y') ks (acc := acc ++ (mkC [k] fun k => w (look A k) (look B k)).map cD) (c4 := .fro (.str k)) (c7 := .fro d7) (by rw [List.length_append]; omega) (.inr ⟨_, rfl⟩) (.inr ⟨_, rfl⟩)
    refine ⟨c4', c7', ?_⟩
    rw [List.map_cons]
    unfold forGo
    have g : gSet 4 (.str k) [.fro (.str way), x', y', .own (.lst acc), c4, .fro (dC A), .fro (dC B), c7] = .ok () [.fro (.str way), x', y', .own (.lst acc), .fro (.str k), .fro (dC A), .fro (dC B), c7] := by
      rcases h4 with rfl | ⟨z, rfl⟩ <;> simp
    rw [g, R.bind_ok, e1, R.bind_ok]
    refine e2.trans ?_
    rw [List.append_assoc, ← List.map_append, ← mk_append]
    rfl
theorem join_comp {A B : CL} {c0 c1 c2 c3 c7 : Cell} (hB : B.length ≤ 1000) : c0_joined [c0, c1, c2, c3, .no, .fro (dC A), .fro (dC B), c7] = .ok (.lst ((restK A B).map D.str)) [c0, c1, c2, c3, .no, .fro (dC A), .fro (dC B), c7] := by
  have e := comp_map (vs := [4]) (g := gSet 4) (t := sTst (sOps gNotIn (b2 (sLoc 4) (sLoc 5)))) (s := sVar 4) (f := fun d => d) (p := fun d => match d with | .str x => !decide (x ∈ keysC A) | _ => false) (ρ := [c0, c1, c2, c3, .no, .fro (dC A), .fro (dC B), c7]) (ds := (keysC B).map D.str)
    (fun d hd => by
      obtain ⟨x, _, rfl⟩ := List.mem_map.mp hd
      refine ⟨[c0, c1, c2, c3, .fro (.str x), .fro (dC A), .fro (dC B), c7], [c0, c1, c2, c3, .fro (.str x), .fro (dC A), .fro (dC B), c7], by simp, ?_, by simp [plainAt], by simp [wipeE], fun _ => ⟨[c0, c1, c2, c3, .fro (.str x), .fro (dC A), .fro (dC B), c7], by simp, by simp [plainAt], by simp [wipeE]⟩⟩
      unfold dC
      simp [gNotIn, inD, look_in])
  have hl : ((keysC B).map D.str).length ≤ sizeLine := line_pos (by rw [List.length_map, len_keys]; omega)
  have hf : (((keysC B).map D.str).filter fun d => match d with | .str x => !decide (x ∈ keysC A) | _ => false).map (fun d => d) = (restK A B).map D.str := by
    rw [List.map_id', List.filter_map]
    rfl
  rw [hf] at e
  unfold c0_joined sComp
  have hi : itemsD (dC B) = some ((keysC B).map D.str) := by unfold dC; rw [itemsD, keys_str]
  rw [List.length_map] at hl
  simp [hi, plainAt, hl, wipeE, e, backE]
theorem joined_ok {way : Str} {w : Option Int → Option Int → Option Int} (hw : ∀ a b, m_one_count [.str way, oD a, oD b] = .ok (oD (w a b)) []) {n m : Nat} {A B : CL} (a : CK n A) (b : CK m B) (hn : n ≤ 500) (hm : m ≤ 500) :
    m_joined [.str way, cT A, cT B] = .ok (cT (joinC w A B)) [] := by
  show runP 8 3 b_joined _ = _
  have la := a.len
  have lb := b.len
  have h1 : (restK A B).length ≤ (keysC B).length := List.length_filter_le ..
  rw [len_keys] at h1
  obtain ⟨c4, c7, e⟩ := join_loop hw (A := A) (B := B) (x' := .fro (cT A)) (y' := .fro (cT B)) (allK A B) (acc := []) (c4 := .no) (c7 := .no) (by unfold allK; rw [List.length_append, len_keys]; simp; omega) (.inl rfl) (.inl rfl)
  have hg : gList [dC A] = some (.lst ((keysC A).map D.str)) := by unfold dC; rw [gList, keys_str]
  have hl : ((keysC A).map D.str).length + ((restK A B).map D.str).length ≤ sizeLine := line_pos (by rw [List.length_map, List.length_map, len_keys]; omega)
  have hm' : (keysC A).map D.str ++ (restK A B).map D.str = (allK A B).map D.str := by unfold allK; rw [List.map_append]
  rw [List.length_map, List.length_map] at hl
  unfold runP b_joined l0_joined sFor
  simp only [List.nil_append] at e
  simp [gDict_cv a, gDict_cv b, line2, hg, join_comp (show B.length ≤ 1000 by omega), gAdd, hl, hm', itemsD, e, gTuple]
  rfl
theorem turn_comp {s : Int} {C : CL} {c0 : Cell} (hs : ∀ j, CMulA s j) (hl : C.length ≤ 1000) : c0_turned [c0, .fro (cT C), .fro (.int s), .no, .no] = .ok (.lst ((turnC s C).map cD)) [c0, .fro (cT C), .fro (.int s), .no, .no] := by
  have e := comp_map (vs := [3, 4]) (g := gTup' 2 (gC (gSet 3) (gC (gSet 4) gN))) (t := sTst (sOps gGt (b2 (sVal (sOps gMul (b2 (sLoc 2) (sLoc 4)))) (sVal (sCst (.int 0)))))) (s := sTup (sCons (sVar 3) (sCons (sOps gMul (b2 (sLoc 2) (sLoc 4))) sNil)))
    (f := fun d => match d with | .tup [k, .int c] => .tup [k, .int (s * c)] | d => d) (p := fun d => match d with | .tup [_, .int c] => decide (0 < s * c) | _ => false) (ρ := [c0, .fro (cT C), .fro (.int s), .no, .no]) (ds := C.map cD)
    (fun d hd => by
      obtain ⟨p, _, rfl⟩ := List.mem_map.mp hd
      refine ⟨[c0, .fro (cT C), .fro (.int s), .fro (.str p.1), .fro (.int p.2)], [c0, .fro (cT C), .fro (.int s), .fro (.str p.1), .fro (.int p.2)], by simp [cD], ?_, by simp [plainAt], by simp [wipeE], fun _ => ⟨[c0, .fro (cT C), .fro (.int s), .fro (.str p.1), .fro (.int p.2)], ?_, by simp [plainAt], by simp [wipeE]⟩⟩
      · simp [gMul, hs, gGt, lexI, cD]
      · simp [gMul, hs, cD, line2])
  have hf : ∀ C : CL, ((C.map cD).filter fun d => match d with | .tup [_, .int c] => decide (0 < s * c) | _ => false).map (fun d => match d with | .tup [k, .int c] => .tup [k, .int (s * c)] | d => d) = (turnC s C).map cD := fun C => by
    induction C with
    | nil => rfl
    | cons p C ih =>
      unfold turnC at ih ⊢
      rw [List.map_cons, List.filterMap_cons]
      by_cases h : 0 < s * p.2
      · rw [List.filter_cons_of_pos (by simp [cD, h]), List.map_cons, ih]
        simp [posO, h, cD]
      · rw [List.filter_cons_of_neg (by simp [cD, h]), ih]
        simp [posO, h]
  rw [hf] at e
  have hl' : (C.map cD).length ≤ sizeLine := line_pos (by rw [List.length_map]; omega)
  have hi : itemsD (cT C) = some (C.map cD) := rfl
  unfold c0_turned sComp
  rw [List.length_map] at hl'
  simp [hi, plainAt, hl', wipeE, e, backE]
theorem turned_plus {n : Nat} {A : CL} (a : CK n A) (hn : n ≤ 500) : m_turned [.str "plus", cT A] = .ok (cT (turnC 1 A)) [] := by
  have hl := a.len
  show runP 5 2 b_turned _ = _
  unfold runP b_turned
  simp [gEq, D.truth, turn_comp mul_1 (show A.length ≤ 1000 by omega), gTuple]
  rfl
theorem turned_minus {n : Nat} {A : CL} (a : CK n A) (hn : n ≤ 500) : m_turned [.str "minus", cT A] = .ok (cT (turnC (-1) A)) [] := by
  have hl := a.len
  show runP 5 2 b_turned _ = _
  unfold runP b_turned
  simp [gEq, D.truth, gNeg, turn_comp mul_m (show A.length ≤ 1000 by omega), gTuple]
  rfl
end Lw
namespace Dt
open PySem
theorem eqv_rows : ∀ C : CL, PyData.eqvAll (D.toPs (C.map cD)) (D.toPs (C.map cD)) = true
  | [] => by simp [D.toPs, PyData.eqvAll]
  | p :: C => by
    have ih := eqv_rows C
    simp [D.toPs, PyData.eqvAll, cD, D.toP, PyData.eqv, ih]
theorem eqv_cT (C : CL) : (cT C).eqv (cT C) = true := by
  show PyData.eqv (.tuple (D.toPs (C.map cD))) (.tuple (D.toPs (C.map cD))) = true
  rw [PyData.eqv]
  exact eqv_rows C
end Dt
namespace Lw
open Dt PySem
theorem ne_same {n : Nat} {C : CL} (h : CK n C) (hn : n ≤ 500 := by decide) : gNe [cT C, cT C] = some (.bl false) := by
  have o := cv_ok h (Nat.le_trans hn (by decide))
  show (eqD _ _).map _ = _
  rw [eqD_ok o o (by decide) (by decide), eqv_cT]
  rfl
end Lw
namespace Lw
open Dt PySem
@[simp] theorem ev_clGo0 (vs : List Nat) (g : SG) (bs : Acc → Dt.Env → R Acc) (acc : Acc) (ρ : Dt.Env) : clGo vs g bs [] acc ρ = .ok acc ρ := rfl
theorem keys_in {c0 c1 : Cell} : ∀ (C : CL) (σ : List Str) (vs : List D), σ.length + C.length < 5000 →
    ∃ vs', clGo [2, 3] (gTup' 2 (gC (gSet 2) (gC (gSet 3) gN))) (putS (sVar 2) (sCst (.bl true))) (C.map cD) (σ.map Sum.inr, vs) [c0, c1, .no, .no] = .ok (((keysC C).foldl kindS σ).map Sum.inr, vs') [c0, c1, .no, .no]
  | [], σ, vs, _ => ⟨vs, rfl⟩
  | p :: C, σ, vs, hl => by
    rw [List.length_cons] at hl
    have hk : (kindS σ p.1).length ≤ σ.length + 1 := by rw [len_kindS]; split <;> omega
    obtain ⟨vs', ih⟩ := keys_in (c0 := c0) (c1 := c1) C (kindS σ p.1) (dPut (σ.map Sum.inr) vs (Sum.inr p.1) (.bl true)).2 (by omega)
    refine ⟨vs', ?_⟩
    have g : gTup' 2 (gC (gSet 2) (gC (gSet 3) gN)) (cD p) [c0, c1, .no, .no] = .ok () [c0, c1, .fro (.str p.1), .fro (.int p.2)] := by simp [cD]
    have w : dPut (σ.map Sum.inr) vs (Sum.inr p.1) (.bl true) = ((kindS σ p.1).map Sum.inr, (dPut (σ.map Sum.inr) vs (Sum.inr p.1) (.bl true)).2) := by
      rw [← dPut_kind σ vs p.1 (.bl true)]
    have hs : (σ.map (Sum.inr (α := Int))).length < sizeLine := small_line (by rw [List.length_map]; omega)
    have b : putS (sVar 2) (sCst (.bl true)) (σ.map Sum.inr, vs) [c0, c1, .fro (.str p.1), .fro (.int p.2)] = .ok ((kindS σ p.1).map Sum.inr, (dPut (σ.map Sum.inr) vs (Sum.inr p.1) (.bl true)).2) [c0, c1, .fro (.str p.1), .fro (.int p.2)] := by
      rw [← w]
      unfold putS
      rw [List.length_map] at hs
      simp [keyOf_str, hs]
    rw [List.map_cons]
    unfold clGo
    rw [g, R.bind_ok, b, R.bind_ok, if_pos (by simp [plainAt])]
    exact ih
theorem keys_ok {n m : Nat} {A B : CL} (a : CK n A) (b : CK m B) (hn : n ≤ 500) (hm : m ≤ 500) : m_keys_of [.arg [cT A, cT B]] = .ok (.lst ((allK A B).map D.str)) [] := by
  have la := a.len
  have lb := b.len
  have e0 : ∀ σ : List Str, ∀ C : CL, (keysC C).Nodup → (keysC C).foldl kindS σ = σ ++ (keysC C).filter fun k => !decide (k ∈ σ) := fun σ C nd => foldl_kind _ _ nd
  have ea : (keysC A).foldl kindS [] = keysC A := by rw [e0 _ _ a.nd]; simp
  have eb : (keysC B).foldl kindS (keysC A) = allK A B := e0 _ _ b.nd
  obtain ⟨v1, i1⟩ := keys_in (c0 := .fro (.arg [cT A, cT B])) (c1 := .fro (cT A)) A [] [] (by simp; omega)
  obtain ⟨v2, i2⟩ := keys_in (c0 := .fro (.arg [cT A, cT B])) (c1 := .fro (cT B)) B (keysC A) v1 (by rw [len_keys]; omega)
  rw [ea] at i1
  rw [eb] at i2
  have i1 : clGo [2, 3] (gTup' 2 (gC (gSet 2) (gC (gSet 3) gN))) (putS (sVar 2) (sCst (.bl true))) (A.map cD) ([], []) [.fro (.arg [cT A, cT B]), .fro (cT A), .no, .no] = .ok ((keysC A).map Sum.inr, v1) [.fro (.arg [cT A, cT B]), .fro (cT A), .no, .no] := i1
  have ia : itemsD (cT A) = some (A.map cD) := rfl
  have ib : itemsD (cT B) = some (B.map cD) := rfl
  have c : c0_keys_of [.fro (.arg [cT A, cT B]), .no, .no, .no] = .ok (.dct ((allK A B).map Sum.inr) v2) [.fro (.arg [cT A, cT B]), .no, .no, .no] := by
    unfold c0_keys_of sDComp2
    have ig : itemsD (.arg [cT A, cT B]) = some [cT A, cT B] := rfl
    simp [ig, ia, ib, plainAt, wipeE, clGo, innS, backE, i1, i2]
  show runP 4 1 b_keys_of _ = _
  unfold runP b_keys_of
  simp [c, gList]
  exact fun _ _ => rfl
theorem all_bl {ks : List Str} {g : Str → Bool} : gAll [.lst (ks.map fun x => .bl (g x))] = some (.bl (ks.all g)) := by
  have e : ks.map (fun x => D.bl (g x)) = (ks.map D.str).map fun d => .bl (match d with | .str x => g x | _ => false) := by rw [List.map_map]; rfl
  have e2 : (ks.map D.str).map (fun d => match d with | .str x => g x | _ => false) = ks.map g := by rw [List.map_map]; rfl
  show (blsOf _).map _ = _
  rw [e, bls_map, e2]
  simp [List.all_map]
theorem comp_eq {n m : Nat} {A B : CL} (a : CK n A) (b : CK m B) (hn : n ≤ 500) (hm : m ≤ 500) : c0_all_equal [.fro (cT A), .fro (cT B), .fro (dC A), .fro (dC B), .no] = .ok (.lst ((allK A B).map fun x => .bl (decide (val A x = val B x)))) [.fro (cT A), .fro (cT B), .fro (dC A), .fro (dC B), .no] := by
  have e := comp_map (vs := [4]) (g := gSet 4) (t := tT1) (s := sOps gEq (b2 (sVal (sGet2 (sLoc 2) (sVar 4) (sCst (.int 0)))) (sVal (sGet2 (sLoc 3) (sVar 4) (sCst (.int 0))))))
    (f := fun d => match d with | .str x => .bl (decide (val A x = val B x)) | d => d) (p := fun _ => true) (ρ := [.fro (cT A), .fro (cT B), .fro (dC A), .fro (dC B), .no]) (ds := (allK A B).map D.str)
    (fun d hd => by
      obtain ⟨x, _, rfl⟩ := List.mem_map.mp hd
      refine ⟨[.fro (cT A), .fro (cT B), .fro (dC A), .fro (dC B), .fro (.str x)], [.fro (cT A), .fro (cT B), .fro (dC A), .fro (dC B), .fro (.str x)], by simp, rfl, by simp [plainAt], by simp [wipeE], fun _ => ⟨[.fro (cT A), .fro (cT B), .fro (dC A), .fro (dC B), .fro (.str x)], ?_, by simp [plainAt], by simp [wipeE]⟩⟩
      unfold dC
      simp [look_val, gEq]
      exact Bool.eq_iff_iff.mpr (by simp))
  have la := a.len
  have lb := b.len
  have h1 : (restK A B).length ≤ (keysC B).length := List.length_filter_le ..
  rw [len_keys] at h1
  have hl : (allK A B).length ≤ sizeLine := line_pos (by unfold allK; rw [List.length_append, len_keys]; omega)
  rw [List.filter_eq_self.mpr (fun _ _ => rfl), List.map_map] at e
  unfold c0_all_equal sComp
  simp [keys_ok a b hn hm, line2, itemsD, plainAt, hl, wipeE, e, backE, Function.comp_def]
theorem comp_le {n m : Nat} {A B : CL} (a : CK n A) (b : CK m B) (hn : n ≤ 500) (hm : m ≤ 500) : c0_all_at_most [.fro (cT A), .fro (cT B), .fro (dC A), .fro (dC B), .no] = .ok (.lst ((allK A B).map fun x => .bl (decide (val A x ≤ val B x)))) [.fro (cT A), .fro (cT B), .fro (dC A), .fro (dC B), .no] := by
  have e := comp_map (vs := [4]) (g := gSet 4) (t := tT1) (s := sOps gLe (b2 (sVal (sGet2 (sLoc 2) (sVar 4) (sCst (.int 0)))) (sVal (sGet2 (sLoc 3) (sVar 4) (sCst (.int 0))))))
    (f := fun d => match d with | .str x => .bl (decide (val A x ≤ val B x)) | d => d) (p := fun _ => true) (ρ := [.fro (cT A), .fro (cT B), .fro (dC A), .fro (dC B), .no]) (ds := (allK A B).map D.str)
    (fun d hd => by
      obtain ⟨x, _, rfl⟩ := List.mem_map.mp hd
      refine ⟨[.fro (cT A), .fro (cT B), .fro (dC A), .fro (dC B), .fro (.str x)], [.fro (cT A), .fro (cT B), .fro (dC A), .fro (dC B), .fro (.str x)], by simp, rfl, by simp [plainAt], by simp [wipeE], fun _ => ⟨[.fro (cT A), .fro (cT B), .fro (dC A), .fro (dC B), .fro (.str x)], ?_, by simp [plainAt], by simp [wipeE]⟩⟩
      unfold dC
      simp [look_val, gLe, lexI])
  have la := a.len
  have lb := b.len
  have h1 : (restK A B).length ≤ (keysC B).length := List.length_filter_le ..
  rw [len_keys] at h1
  have hl : (allK A B).length ≤ sizeLine := line_pos (by unfold allK; rw [List.length_append, len_keys]; omega)
  rw [List.filter_eq_self.mpr (fun _ _ => rfl), List.map_map] at e
  unfold c0_all_at_most sComp
  simp [keys_ok a b hn hm, line2, itemsD, plainAt, hl, wipeE, e, backE, Function.comp_def]
def eqC (A B : CL) : Bool := (allK A B).all fun x => decide (val A x = val B x)
def leC (A B : CL) : Bool := (allK A B).all fun x => decide (val A x ≤ val B x)
theorem eqC_yes {A B : CL} (h : ∀ x, val A x = val B x) : eqC A B = true := List.all_eq_true.mpr fun x _ => decide_eq_true (h x)
end Lw
namespace Dt
open PySem
theorem n_add_less : (Str.ofString "add" = Str.ofString "less") = False := eq_false (by decide +kernel)
theorem n_add_most : (Str.ofString "add" = Str.ofString "most") = False := eq_false (by decide +kernel)
theorem n_add_least : (Str.ofString "add" = Str.ofString "least") = False := eq_false (by decide +kernel)
theorem n_less_add : (Str.ofString "less" = Str.ofString "add") = False := eq_false (by decide +kernel)
theorem n_less_most : (Str.ofString "less" = Str.ofString "most") = False := eq_false (by decide +kernel)
theorem n_less_least : (Str.ofString "less" = Str.ofString "least") = False := eq_false (by decide +kernel)
theorem n_most_add : (Str.ofString "most" = Str.ofString "add") = False := eq_false (by decide +kernel)
theorem n_most_less : (Str.ofString "most" = Str.ofString "less") = False := eq_false (by decide +kernel)
theorem n_most_least : (Str.ofString "most" = Str.ofString "least") = False := eq_false (by decide +kernel)
theorem n_least_add : (Str.ofString "least" = Str.ofString "add") = False := eq_false (by decide +kernel)
theorem n_least_less : (Str.ofString "least" = Str.ofString "less") = False := eq_false (by decide +kernel)
theorem n_least_most : (Str.ofString "least" = Str.ofString "most") = False := eq_false (by decide +kernel)
end Dt
namespace Lw
open Dt PySem
theorem lt2 : 2 < sizeLine := small_line (by decide)
theorem lt3 : 3 < sizeLine := small_line (by decide)
theorem mn_0 (v : Int) : posO (mn 0 v) = none := by unfold posO mn; (repeat' split) <;> first | rfl | omega
theorem fin_any {E : SE} {ρ : Dt.Env} {X : Int} (h : E ρ = .ok (.int X) ρ) : sRet (sIf (sTst (sOps gGt (b2 (sVal E) (sVal (sCst (.int 0)))))) E (sCst .non)) ρ = .ok (.rt (oD (posO X))) ρ := by
  by_cases hx : 0 < X <;> simp [h, gGt, lexI, hx, posO, oD]
theorem fin_add (c1 c2 c4 c5 : Cell) (x1 x2 x3 x4 : Int) : sRet (sIf (sTst (sOps gGt (b2 (sVal (sOps gIdx (b2 (sLoc 3) (sLoc 0)))) (sVal (sCst (.int 0)))))) (sOps gIdx (b2 (sLoc 3) (sLoc 0))) (sCst .non)) [.fro (.str "add"), c1, c2, .own (.dct [Sum.inr "add", Sum.inr "less", Sum.inr "most", Sum.inr "least"] [.int x1, .int x2, .int x3, .int x4]), c4, c5] = .ok (.rt (oD (posO x1))) [.fro (.str "add"), c1, c2, .own (.dct [Sum.inr "add", Sum.inr "less", Sum.inr "most", Sum.inr "least"] [.int x1, .int x2, .int x3, .int x4]), c4, c5] :=
  fin_any (by simp [gIdx, idxD, dLook, n_add_less, n_add_most, n_add_least, n_less_add, n_less_most, n_less_least, n_most_add, n_most_less, n_most_least, n_least_add, n_least_less, n_least_most])
theorem lone_add (a b : Option Int) : m_L_count [.str "add", oD a, oD b] = .ok (oD ((ctP fun a b => a + b) a b)) [] := by
  have hf := fin_add
  show runP 6 3 b_L_count _ = _
  unfold runP b_L_count
  generalize sRet (sIf (sTst (sOps gGt (b2 (sVal (sOps gIdx (b2 (sLoc 3) (sLoc 0)))) (sVal (sCst (.int 0)))))) (sOps gIdx (b2 (sLoc 3) (sLoc 0))) (sCst .non)) = l at hf ⊢
  cases a <;> cases b <;> simp [oD_n, oD_s, gEq, gIs, isD, gAdd, gSub, gI, gInt, gMax2_mx, gMin2_mn, ctP, ctL, keyOf_str, putAll, dPut, putD, line_pos, n_add_less, n_add_most, n_add_least, n_less_add, n_less_most, n_less_least, n_most_add, n_most_less, n_most_least, n_least_add, n_least_less, n_least_most, hf, mn_0, lt2, lt3]
theorem fin_less (c1 c2 c4 c5 : Cell) (x1 x2 x3 x4 : Int) : sRet (sIf (sTst (sOps gGt (b2 (sVal (sOps gIdx (b2 (sLoc 3) (sLoc 0)))) (sVal (sCst (.int 0)))))) (sOps gIdx (b2 (sLoc 3) (sLoc 0))) (sCst .non)) [.fro (.str "less"), c1, c2, .own (.dct [Sum.inr "add", Sum.inr "less", Sum.inr "most", Sum.inr "least"] [.int x1, .int x2, .int x3, .int x4]), c4, c5] = .ok (.rt (oD (posO x2))) [.fro (.str "less"), c1, c2, .own (.dct [Sum.inr "add", Sum.inr "less", Sum.inr "most", Sum.inr "least"] [.int x1, .int x2, .int x3, .int x4]), c4, c5] :=
  fin_any (by simp [gIdx, idxD, dLook, n_add_less, n_add_most, n_add_least, n_less_add, n_less_most, n_less_least, n_most_add, n_most_less, n_most_least, n_least_add, n_least_less, n_least_most])
theorem lone_less (a b : Option Int) : m_L_count [.str "less", oD a, oD b] = .ok (oD ((ctP fun a b => a - b) a b)) [] := by
  have hf := fin_less
  show runP 6 3 b_L_count _ = _
  unfold runP b_L_count
  generalize sRet (sIf (sTst (sOps gGt (b2 (sVal (sOps gIdx (b2 (sLoc 3) (sLoc 0)))) (sVal (sCst (.int 0)))))) (sOps gIdx (b2 (sLoc 3) (sLoc 0))) (sCst .non)) = l at hf ⊢
  cases a <;> cases b <;> simp [oD_n, oD_s, gEq, gIs, isD, gAdd, gSub, gI, gInt, gMax2_mx, gMin2_mn, ctP, ctL, keyOf_str, putAll, dPut, putD, line_pos, n_add_less, n_add_most, n_add_least, n_less_add, n_less_most, n_less_least, n_most_add, n_most_less, n_most_least, n_least_add, n_least_less, n_least_most, hf, mn_0, lt2, lt3]
theorem fin_most (c1 c2 c4 c5 : Cell) (x1 x2 x3 x4 : Int) : sRet (sIf (sTst (sOps gGt (b2 (sVal (sOps gIdx (b2 (sLoc 3) (sLoc 0)))) (sVal (sCst (.int 0)))))) (sOps gIdx (b2 (sLoc 3) (sLoc 0))) (sCst .non)) [.fro (.str "most"), c1, c2, .own (.dct [Sum.inr "add", Sum.inr "less", Sum.inr "most", Sum.inr "least"] [.int x1, .int x2, .int x3, .int x4]), c4, c5] = .ok (.rt (oD (posO x3))) [.fro (.str "most"), c1, c2, .own (.dct [Sum.inr "add", Sum.inr "less", Sum.inr "most", Sum.inr "least"] [.int x1, .int x2, .int x3, .int x4]), c4, c5] :=
  fin_any (by simp [gIdx, idxD, dLook, n_add_less, n_add_most, n_add_least, n_less_add, n_less_most, n_less_least, n_most_add, n_most_less, n_most_least, n_least_add, n_least_less, n_least_most])
theorem lone_most (a b : Option Int) : m_L_count [.str "most", oD a, oD b] = .ok (oD ((ctP mx) a b)) [] := by
  have hf := fin_most
  show runP 6 3 b_L_count _ = _
  unfold runP b_L_count
  generalize sRet (sIf (sTst (sOps gGt (b2 (sVal (sOps gIdx (b2 (sLoc 3) (sLoc 0)))) (sVal (sCst (.int 0)))))) (sOps gIdx (b2 (sLoc 3) (sLoc 0))) (sCst .non)) = l at hf ⊢
  cases a <;> cases b <;> simp [oD_n, oD_s, gEq, gIs, isD, gAdd, gSub, gI, gInt, gMax2_mx, gMin2_mn, ctP, ctL, keyOf_str, putAll, dPut, putD, line_pos, n_add_less, n_add_most, n_add_least, n_less_add, n_less_most, n_less_least, n_most_add, n_most_less, n_most_least, n_least_add, n_least_less, n_least_most, hf, mn_0, lt2, lt3]
theorem fin_least (c1 c2 c4 c5 : Cell) (x1 x2 x3 x4 : Int) : sRet (sIf (sTst (sOps gGt (b2 (sVal (sOps gIdx (b2 (sLoc 3) (sLoc 0)))) (sVal (sCst (.int 0)))))) (sOps gIdx (b2 (sLoc 3) (sLoc 0))) (sCst .non)) [.fro (.str "least"), c1, c2, .own (.dct [Sum.inr "add", Sum.inr "less", Sum.inr "most", Sum.inr "least"] [.int x1, .int x2, .int x3, .int x4]), c4, c5] = .ok (.rt (oD (posO x4))) [.fro (.str "least"), c1, c2, .own (.dct [Sum.inr "add", Sum.inr "less", Sum.inr "most", Sum.inr "least"] [.int x1, .int x2, .int x3, .int x4]), c4, c5] :=
  fin_any (by simp [gIdx, idxD, dLook, n_add_less, n_add_most, n_add_least, n_less_add, n_less_most, n_less_least, n_most_add, n_most_less, n_most_least, n_least_add, n_least_less, n_least_most])
theorem lone_least (a b : Option Int) : m_L_count [.str "least", oD a, oD b] = .ok (oD (ctL a b)) [] := by
  have hf := fin_least
  show runP 6 3 b_L_count _ = _
  unfold runP b_L_count
  generalize sRet (sIf (sTst (sOps gGt (b2 (sVal (sOps gIdx (b2 (sLoc 3) (sLoc 0)))) (sVal (sCst (.int 0)))))) (sOps gIdx (b2 (sLoc 3) (sLoc 0))) (sCst .non)) = l at hf ⊢
  cases a <;> cases b <;> simp [oD_n, oD_s, gEq, gIs, isD, gAdd, gSub, gI, gInt, gMax2_mx, gMin2_mn, ctP, ctL, keyOf_str, putAll, dPut, putD, line_pos, n_add_less, n_add_most, n_add_least, n_less_add, n_less_most, n_less_least, n_most_add, n_most_less, n_most_least, n_least_add, n_least_less, n_least_most, hf, mn_0, lt2, lt3]
theorem lone_update (a b : Option Int) : m_L_count [.str "update", oD a, oD b] = .ok (oD ((ctS 1) a b)) [] := by
  show runP 6 3 b_L_count _ = _
  unfold runP b_L_count
  cases a <;> cases b <;> simp [oD_n, oD_s, gEq, gIs, isD, gAdd, gSub, gI, ctS]
theorem lone_subtract (a b : Option Int) : m_L_count [.str "subtract", oD a, oD b] = .ok (oD ((ctS (-1)) a b)) [] := by
  show runP 6 3 b_L_count _ = _
  unfold runP b_L_count
  cases a <;> cases b <;> simp [oD_n, oD_s, gEq, gIs, isD, gAdd, gSub, gI, ctS] <;> omega
theorem ljoin_turn {way : Str} {w : Option Int → Option Int → Option Int} (hw : ∀ a b, m_L_count [.str way, oD a, oD b] = .ok (oD (w a b)) []) {A B : CL} {x' y' c8 : Cell} {acc : List D} {p : Str × Int} (hl : acc.length < 5000) :
    ∃ d7, t0_L_joined [.fro (.str way), x', y', .own (.lst acc), .fro (dC A), .fro (dC B), .fro (.str p.1), .fro (.int p.2), c8] = .ok .nx [.fro (.str way), x', y', .own (.lst (acc ++ (mkC [p.1] fun k => w (look A k) (look B k)).map cD)), .fro (dC A), .fro (dC B), .fro (.str p.1), .fro d7, c8] := by
  have hs : acc.length < sizeLine := small_line (by omega)
  refine ⟨oD (w (look A p.1) (look B p.1)), ?_⟩
  have hm : mkC [p.1] (fun k => w (look A k) (look B k)) = match w (look A p.1) (look B p.1) with | some c => [(p.1, c)] | none => [] := by
    unfold mkC
    rw [List.filterMap_cons]
    dsimp only
    cases w (look A p.1) (look B p.1) <;> rfl
  rw [hm]
  unfold t0_L_joined dC
  cases hv : w (look A p.1) (look B p.1) <;> simp [look_non, hw, hv, oD_n, oD_s, gIsNot, isD, line2, mAppend, hs, cD]
theorem ljoin_loop {way : Str} {w : Option Int → Option Int → Option Int} (hw : ∀ a b, m_L_count [.str way, oD a, oD b] = .ok (oD (w a b)) []) {A B : CL} {x' y' c8 : Cell} : ∀ (P : CL) {acc : List D} {c6 c7 : Cell}, acc.length + P.length < 5000 → (c6 = .no ∨ ∃ d, c6 = .fro d) → (c7 = .no ∨ ∃ d, c7 = .fro d) →
    ∃ c6' c7', forGo (gTup' 2 (gC (gSet 6) (gC (gSet 7) gN))) t0_L_joined (P.map cD) [.fro (.str way), x', y', .own (.lst acc), .fro (dC A), .fro (dC B), c6, c7, c8] = .ok .nx [.fro (.str way), x', y', .own (.lst (acc ++ (mkC (keysC P) fun k => w (look A k) (look B k)).map cD)), .fro (dC A), .fro (dC B), c6', c7', c8]
  | [], acc, c6, c7, _, _, _ => ⟨c6, c7, by simp [forGo, mkC, keysC]⟩
  | p :: P, acc, c6, c7, hl, h6, h7 => by
    rw [List.length_cons] at hl
    obtain ⟨d7, e1⟩ := ljoin_turn (x' := x') (y' := y') (c8 := c8) hw (A := A) (B := B) (acc := acc) (p := p) (by omega)
    have ll : ((mkC [p.1] fun k => w (look A k) (look B k)).map cD).length ≤ 1 := by
      rw [List.length_map]; exact List.length_filterMap_le ..
    obtain ⟨c6', c7', e2⟩ := ljoin_loop hw (A := A) (B := B) (x' := x') (y' := y') (c8 := c8) P (acc := acc ++ (mkC [p.1] fun k => w (look A k) (look B k)).map cD) (c6 := .fro (.str p.1)) (c7 := .fro d7) (by rw [List.length_append]; omega) (.inr ⟨_, rfl⟩) (.inr ⟨_, rfl⟩)
    refine ⟨c6', c7', ?_⟩
    rw [List.map_cons]
    unfold forGo
    have g : gTup' 2 (gC (gSet 6) (gC (gSet 7) gN)) (cD p) [.fro (.str way), x', y', .own (.lst acc), .fro (dC A), .fro (dC B), c6, c7, c8] = .ok () [.fro (.str way), x', y', .own (.lst acc), .fro (dC A), .fro (dC B), .fro (.str p.1), .fro (.int p.2), c8] := by
      rcases h6 with rfl | ⟨z, rfl⟩ <;> rcases h7 with rfl | ⟨z, rfl⟩ <;> simp [cD]
    rw [g, R.bind_ok, e1, R.bind_ok]
    refine e2.trans ?_
    rw [List.append_assoc, ← List.map_append, ← mk_append]
    rfl
theorem ljoin_comp {A B : CL} {c0 c1 c3 c6 c7 : Cell} (hB : B.length ≤ 1000) : c0_L_joined [c0, c1, .fro (cT B), c3, .fro (dC A), .fro (dC B), c6, c7, .no] = .ok (.lst ((B.filter fun p => !decide (p.1 ∈ keysC A)).map cD)) [c0, c1, .fro (cT B), c3, .fro (dC A), .fro (dC B), c6, c7, .no] := by
  have e := comp_map (vs := [8]) (g := gSet 8) (t := sTst (sOps gNotIn (b2 (sVal (sOps gIdx (b2 (sLoc 8) (sVal (sCst (.int 0)))))) (sLoc 4)))) (s := sVar 8) (f := fun d => d) (p := fun d => match d with | .tup [.str x, _] => !decide (x ∈ keysC A) | _ => false) (ρ := [c0, c1, .fro (cT B), c3, .fro (dC A), .fro (dC B), c6, c7, .no]) (ds := B.map cD)
    (fun d hd => by
      obtain ⟨p, _, rfl⟩ := List.mem_map.mp hd
      refine ⟨[c0, c1, .fro (cT B), c3, .fro (dC A), .fro (dC B), c6, c7, .fro (cD p)], [c0, c1, .fro (cT B), c3, .fro (dC A), .fro (dC B), c6, c7, .fro (cD p)], by simp, ?_, by simp [plainAt], by simp [wipeE], fun _ => ⟨[c0, c1, .fro (cT B), c3, .fro (dC A), .fro (dC B), c6, c7, .fro (cD p)], by simp, by simp [plainAt], by simp [wipeE]⟩⟩
      unfold dC cD
      simp [gIdx, idxD, gNotIn, inD, look_in])
  have hl : B.length ≤ sizeLine := line_pos (by omega)
  have hf : ((B.map cD).filter fun d => match d with | .tup [.str x, _] => !decide (x ∈ keysC A) | _ => false).map (fun d => d) = (B.filter fun p => !decide (p.1 ∈ keysC A)).map cD := by
    rw [List.map_id', List.filter_map]
    rfl
  rw [hf] at e
  unfold c0_L_joined sComp
  have hi : itemsD (cT B) = some (B.map cD) := rfl
  simp [hi, plainAt, hl, wipeE, e, backE]
theorem ljoined_ok {way : Str} {w : Option Int → Option Int → Option Int} (hw : ∀ a b, m_L_count [.str way, oD a, oD b] = .ok (oD (w a b)) []) {n m : Nat} {A B : CL} (a : CK n A) (b : CK m B) (hn : n ≤ 500 := by decide) (hm : m ≤ 500 := by decide) :
    m_L_joined [.str way, cT A, cT B] = .ok (cT (joinC w A B)) [] := by
  show runP 9 3 b_L_joined _ = _
  have la := a.len
  have lb := b.len
  have h1 : (B.filter fun p => !decide (p.1 ∈ keysC A)).length ≤ B.length := List.length_filter_le ..
  obtain ⟨c6, c7, e⟩ := ljoin_loop hw (A := A) (B := B) (x' := .fro (cT A)) (y' := .fro (cT B)) (c8 := .no) (A ++ B.filter fun p => !decide (p.1 ∈ keysC A)) (acc := []) (c6 := .no) (c7 := .no) (by rw [List.length_append]; simp; omega) (.inl rfl) (.inl rfl)
  have hk : keysC (A ++ B.filter fun p => !decide (p.1 ∈ keysC A)) = allK A B := by
    unfold allK restK keysC
    rw [List.map_append, List.filter_map]
    rfl
  rw [hk, List.map_append] at e
  have hl : A.length + (B.filter fun p => !decide (p.1 ∈ keysC A)).length ≤ sizeLine := line_pos (by omega)
  have ga : gAdd [cT A, .tup ((B.filter fun p => !decide (p.1 ∈ keysC A)).map cD)] = some (.tup (A.map cD ++ (B.filter fun p => !decide (p.1 ∈ keysC A)).map cD)) := by
    show (if (A.map cD).length + _ ≤ sizeLine then _ else _) = _
    rw [List.length_map, List.length_map, if_pos hl]
  unfold runP b_L_joined l0_L_joined sFor
  simp only [List.nil_append] at e
  simp [gDict_cv a, gDict_cv b, ljoin_comp (show B.length ≤ 1000 by omega), ga, itemsD, e, gTuple]
  rfl
end Lw
namespace Lw
open Dt PySem
theorem filt_eq (A B : CL) : ((keysC A ++ keysC B).filter fun x => !decide (val A x = val B x)).isEmpty = eqC A B := by
  rw [Bool.eq_iff_iff, List.isEmpty_iff, List.filter_eq_nil_iff]
  unfold eqC
  rw [List.all_eq_true]
  constructor
  · intro h x hx
    simpa using h x (List.mem_append.mpr (mem_allK.mp hx))
  · intro h x hx
    simpa using h x (mem_allK.mpr (List.mem_append.mp hx))
theorem filt_le (A B : CL) : ((keysC A ++ keysC B).filter fun x => decide (val B x < val A x)).isEmpty = leC A B := by
  rw [Bool.eq_iff_iff, List.isEmpty_iff, List.filter_eq_nil_iff]
  unfold leC
  rw [List.all_eq_true]
  constructor
  · intro h x hx
    simpa using h x (List.mem_append.mpr (mem_allK.mp hx))
  · intro h x hx
    simpa using h x (mem_allK.mpr (List.mem_append.mp hx))
theorem eq_nilL {xs : List Str} (h : ∀ x ∈ xs, NmOk x) (hl : xs.length ≤ 1000) : gEq [.lst (xs.map D.str), .lst []] = some (.bl xs.isEmpty) := by
  have o : Ok 1000 1 (.lst (xs.map D.str)) := ok_lst.mpr ⟨by rw [List.length_map]; exact hl, fun d hd => by
    obtain ⟨x, hx, rfl⟩ := List.mem_map.mp hd
    exact (ok_str (m := 8) (n := 0).mpr (h x hx).1).mono (by decide) (by decide)⟩
  show (eqD _ _).map _ = _
  rw [eqD_ok o (ok_lst (m := 1) (n := 1) (ds := []).mpr ⟨by simp, by simp⟩) (by decide) (by decide)]
  show some (D.bl (PyData.eqv (.list (D.toPs (xs.map D.str))) (.list []))) = _
  cases xs <;> simp [PyData.eqv, D.toPs, PyData.eqvAll]
theorem list_dct (A : CL) : gList [dC A] = some (.lst ((keysC A).map D.str)) := by
  show some (D.lst (((keysC A).map (Sum.inr (α := Int))).map keyD)) = _
  rw [keys_str]
theorem both_nm {n m : Nat} {A B : CL} (a : CK n A) (b : CK m B) {p : Str → Bool} : ∀ x ∈ (keysC A ++ keysC B).filter p, NmOk x := fun x hx =>
  (List.mem_append.mp (List.mem_filter.mp hx).1).elim (a.keys x) (b.keys x)
theorem both_len {n m : Nat} {A B : CL} (a : CK n A) (b : CK m B) (hn : n ≤ 500) (hm : m ≤ 500) : (keysC A ++ keysC B).length ≤ 1000 := by
  have la := a.len
  have lb := b.len
  rw [List.length_append, len_keys, len_keys]
  omega
theorem leq_ok {n m : Nat} {A B : CL} (a : CK n A) (b : CK m B) (hn : n ≤ 500) (hm : m ≤ 500) : m_L_equal [cT A, cT B] = .ok (.bl (eqC A B)) [] := by
  have bl := both_len a b hn hm
  have fl : ((keysC A ++ keysC B).filter fun x => !decide (val A x = val B x)).length ≤ 1000 := Nat.le_trans (List.length_filter_le ..) bl
  have e := comp1f (enc := D.str) (i := 5) (t := sTst (sOps gNe (b2 (sVal (sGet2 (sLoc 3) (sVar 5) (sCst (.int 0)))) (sVal (sGet2 (sLoc 4) (sVar 5) (sCst (.int 0)))))))
    (s := sVar 5) (ρ := [.fro (cT A), .fro (cT B), .fro (.lst ((keysC A ++ keysC B).map D.str)), .fro (dC A), .fro (dC B), .no]) (xs := keysC A ++ keysC B) D.str (fun x => !decide (val A x = val B x)) rfl
    (fun x _ => ⟨by unfold dC; simp [look_val, gNe, D.truth]; first | done | (exact Bool.eq_iff_iff.mpr (by simp)), fun _ => by simp⟩)
  have eq := eq_nilL (both_nm a b (p := fun x => !decide (val A x = val B x))) fl
  rw [filt_eq] at eq
  have hl : ((keysC A ++ keysC B).map D.str).length ≤ sizeLine := line_pos (by rw [List.length_map]; omega)
  have ad : gAdd [.lst ((keysC A).map D.str), .lst ((keysC B).map D.str)] = some (.lst ((keysC A ++ keysC B).map D.str)) := by
    rw [List.map_append]
    exact add_lst (by rw [List.length_map, List.length_map, ← List.length_append]; omega)
  have ga := gDict_cv a
  have gb := gDict_cv b
  have da := list_dct A
  have db := list_dct B
  generalize dC A = DA at *
  generalize dC B = DB at *
  generalize List.map D.str (List.filter (fun x => !decide (val A x = val B x)) (keysC A ++ keysC B)) = Z at *
  generalize List.map D.str (keysC A ++ keysC B) = Y at *
  have c : c0_L_equal [.fro (cT A), .fro (cT B), .fro (.lst Y), .fro DA, .fro DB, .no] = .ok (.lst Z) [.fro (cT A), .fro (cT B), .fro (.lst Y), .fro DA, .fro DB, .no] := by
    unfold c0_L_equal sComp
    simp [itemsD, plainAt, hl, wipeE, e, backE]
  show runP 6 2 b_L_equal _ = _
  unfold runP b_L_equal
  simp [ga, gb, line2, da, db, ad, c, eq]
theorem lle_ok {n m : Nat} {A B : CL} (a : CK n A) (b : CK m B) (hn : n ≤ 500) (hm : m ≤ 500) : m_L_at_most [cT A, cT B] = .ok (.bl (leC A B)) [] := by
  have bl := both_len a b hn hm
  have fl : ((keysC A ++ keysC B).filter fun x => decide (val B x < val A x)).length ≤ 1000 := Nat.le_trans (List.length_filter_le ..) bl
  have e := comp1f (enc := D.str) (i := 4) (t := sTst (sOps gGt (b2 (sVal (sGet2 (sLoc 2) (sVar 4) (sCst (.int 0)))) (sVal (sGet2 (sLoc 3) (sVar 4) (sCst (.int 0)))))))
    (s := sVar 4) (ρ := [.fro (cT A), .fro (cT B), .fro (dC A), .fro (dC B), .no]) (xs := keysC A ++ keysC B) D.str (fun x => decide (val B x < val A x)) rfl
    (fun x _ => ⟨by unfold dC; simp [look_val, gGt, lexI, D.truth], fun _ => by simp⟩)
  have eq := eq_nilL (both_nm a b (p := fun x => decide (val B x < val A x))) fl
  rw [filt_le] at eq
  have hl : ((keysC A ++ keysC B).map D.str).length ≤ sizeLine := line_pos (by rw [List.length_map]; omega)
  have ad : gAdd [.lst ((keysC A).map D.str), .lst ((keysC B).map D.str)] = some (.lst ((keysC A ++ keysC B).map D.str)) := by
    rw [List.map_append]
    exact add_lst (by rw [List.length_map, List.length_map, ← List.length_append]; omega)
  have ga := gDict_cv a
  have gb := gDict_cv b
  have da := list_dct A
  have db := list_dct B
  generalize dC A = DA at *
  generalize dC B = DB at *
  generalize List.map D.str (List.filter (fun x => decide (val B x < val A x)) (keysC A ++ keysC B)) = Z at *
  generalize List.map D.str (keysC A ++ keysC B) = Y at *
  have c : c0_L_at_most [.fro (cT A), .fro (cT B), .fro DA, .fro DB, .no] = .ok (.lst Z) [.fro (cT A), .fro (cT B), .fro DA, .fro DB, .no] := by
    unfold c0_L_at_most sComp
    simp [da, db, ad, itemsD, plainAt, hl, wipeE, e, backE]
  show runP 5 2 b_L_at_most _ = _
  unfold runP b_L_at_most
  simp [ga, gb, line2, c, eq]
end Lw
namespace Dt
open PySem
theorem get_lt {ρ : Env} {i : Nat} {c : Cell} (h : ρ[i]? = some c) : i < ρ.length := (List.getElem?_eq_some_iff.mp h).1
theorem row_set {ρ : Env} {i j : Nat} {q : Str × Int} (hij : i ≠ j) (h0 : ρ[i]? = some .no) (h1 : ρ[j]? = some .no) : gTup' 2 (gC (gSet i) (gC (gSet j) gN)) (cD q) ρ = .ok () ((ρ.set i (.fro (.str q.1))).set j (.fro (.int q.2))) := by
  have h1' : (ρ.set i (.fro (.str q.1)))[j]? = some .no := by rw [List.getElem?_set_ne hij]; exact h1
  show (gSet i (.str q.1) ρ).bind (fun _ ρ' => gC (gSet j) gN [.int q.2] ρ') = _
  rw [set_gSet h0, R.bind_ok]
  show (gSet j (.int q.2) _).bind (fun _ ρ' => gN [] ρ') = _
  rw [set_gSet h1', R.bind_ok]
  rfl
theorem row_plain {ρ : Env} {i j : Nat} {q : Str × Int} (hij : i ≠ j) (h0 : ρ[i]? = some .no) (h1 : ρ[j]? = some .no) : plainAt ((ρ.set i (.fro (.str q.1))).set j (.fro (.int q.2))) [i, j] = true := by
  have l0 := get_lt h0
  have l1 := get_lt h1
  have e0 : ((ρ.set i (.fro (.str q.1))).set j (.fro (.int q.2)))[i]? = some (.fro (.str q.1)) := by rw [List.getElem?_set_ne (Ne.symm hij), List.getElem?_set_self l0]
  have e1 : ((ρ.set i (.fro (.str q.1))).set j (.fro (.int q.2)))[j]? = some (.fro (.int q.2)) := by rw [List.getElem?_set_self (by rw [List.length_set]; exact l1)]
  rw [plain_cons, plain_cons, plain_nil, e0, e1]
  rfl
theorem row_wipe {ρ : Env} {i j : Nat} {q : Str × Int} (hij : i ≠ j) (h0 : ρ[i]? = some .no) (h1 : ρ[j]? = some .no) : wipeE ((ρ.set i (.fro (.str q.1))).set j (.fro (.int q.2))) [i, j] = ρ := by
  have l0 := get_lt h0
  have l1 := get_lt h1
  show ((((ρ.set i (.fro (.str q.1))).set j (.fro (.int q.2))).set j .no).set i .no) = ρ
  apply List.ext_getElem?
  intro k
  rw [List.getElem?_set, List.getElem?_set, List.getElem?_set, List.getElem?_set]
  simp only [List.length_set]
  by_cases e : i = k
  · subst e; rw [if_pos rfl, if_pos l0, h0]
  · rw [if_neg e]
    by_cases e2 : j = k
    · subst e2; rw [if_pos rfl, if_pos l1, h1]
    · rw [if_neg e2, if_neg e2, if_neg e]
/-- a comprehension over rows: F of those that p keeps -/
theorem comp2r {i j : Nat} {t : ST} {s : SE} {ρ : Env} {C : CL} (F : Str × Int → D) (p : Str × Int → Bool) (hij : i ≠ j) (h0 : ρ[i]? = some .no) (h1 : ρ[j]? = some .no)
    (h : ∀ q ∈ C, t ((ρ.set i (.fro (.str q.1))).set j (.fro (.int q.2))) = .ok (p q) ((ρ.set i (.fro (.str q.1))).set j (.fro (.int q.2))) ∧ (p q = true → s ((ρ.set i (.fro (.str q.1))).set j (.fro (.int q.2))) = .ok (F q) ((ρ.set i (.fro (.str q.1))).set j (.fro (.int q.2))))) :
    compGo [i, j] (gTup' 2 (gC (gSet i) (gC (gSet j) gN))) t s (C.map cD) ρ = .ok ((C.filter p).map F) ρ := by
  induction C with
  | nil => rfl
  | cons q C ih =>
    have ih := ih fun y hy => h y (.tail _ hy)
    obtain ⟨e1, e2⟩ := h q (.head _)
    rw [List.map_cons]
    unfold compGo
    rw [row_set hij h0 h1, R.bind_ok, e1, R.bind_ok]
    cases hp : p q with
    | false =>
      show (if plainAt _ _ = true then _ else _) = _
      rw [if_pos (row_plain hij h0 h1), row_wipe hij h0 h1, ih, List.filter_cons_of_neg (by simp [hp])]
    | true =>
      show (s _).bind _ = _
      rw [e2 hp, R.bind_ok, if_pos (row_plain hij h0 h1), row_wipe hij h0 h1, ih, List.filter_cons_of_pos (by simp [hp])]
      rfl
/-- .. all of them -/
theorem comp2a {i j : Nat} {s : SE} {ρ : Env} {C : CL} (F : Str × Int → D) (hij : i ≠ j) (h0 : ρ[i]? = some .no) (h1 : ρ[j]? = some .no)
    (h : ∀ q ∈ C, s ((ρ.set i (.fro (.str q.1))).set j (.fro (.int q.2))) = .ok (F q) ((ρ.set i (.fro (.str q.1))).set j (.fro (.int q.2)))) :
    compGo [i, j] (gTup' 2 (gC (gSet i) (gC (gSet j) gN))) tT1 s (C.map cD) ρ = .ok (C.map F) ρ := by
  rw [comp2r (t := tT1) F (fun _ => true) hij h0 h1 fun q hq => ⟨rfl, fun _ => h q hq⟩, List.filter_eq_self.mpr fun _ _ => rfl]
theorem in_keys (x : Str) (zs : List Str) : gIn [.str x, .lst (zs.map D.str)] = some (.bl (decide (x ∈ zs))) := by
  show (inD (.str x) (.lst (zs.map D.str))).map D.bl = _
  have h2 : ((zs.map D.str).any fun y => eqF y (.str x)) = decide (x ∈ zs) := by
    rw [List.any_map]
    induction zs with
    | nil => rfl
    | cons z zs ih =>
      rw [List.any_cons, ih]
      by_cases e : z = x
      · subst e; simp [eqF]
      · have e' : ¬ x = z := fun q => e q.symm
        simp [eqF, e, e']
  have h1 : (flatD (.str x) && (zs.map D.str).all flatD) = true := by
    simp [flatD]
  show (if _ then some _ else none).map D.bl = _
  rw [if_pos h1, h2]
  rfl
/-- a count set, in its place or behind all -/
def setC (C : CL) (k : Str) (v : Int) : CL := if k ∈ keysC C then C.map (fun p => (p.1, if p.1 = k then v else p.2)) else C ++ [(k, v)]
theorem keys_set (C : CL) (k : Str) (v : Int) : keysC (setC C k v) = if k ∈ keysC C then keysC C else keysC C ++ [k] := by
  unfold setC
  split
  · unfold keysC; rw [List.map_map]; rfl
  · unfold keysC; rw [List.map_append]; rfl
theorem nodup_len : ∀ {L M : List Str}, L.Nodup → (∀ x ∈ L, x ∈ M) → L.length ≤ M.length
  | [], M, _, _ => Nat.zero_le _
  | x :: L, M, nd, h => by
    obtain ⟨n1, n2⟩ := List.nodup_cons.mp nd
    have hx := h x (.head _)
    have ih := nodup_len (M := M.erase x) n2 fun y hy => (List.mem_erase_of_ne (fun e => n1 (by rw [← e]; exact hy))).mpr (h y (.tail _ hy))
    rw [List.length_erase_of_mem hx] at ih
    have : 0 < M.length := List.length_pos_of_mem hx
    rw [List.length_cons]
    omega
end Dt
namespace Lw
open Dt PySem
theorem eqD_nm {a x : Str} {m n : Nat} (ha : Ok m n (.str a)) (hx : NmOk x) (hn : n ≤ 64 := by decide) : eqD (.str a) (.str x) = some (a == x) := by
  rw [eqD_ok ha (ok_str (m := 8) (n := 0).mpr hx.1) hn (by decide)]
  rfl
/-- a counter of the law's keys -/
structure KW (C : CL) : Prop where
  nd : (keysC C).Nodup
  keys : ∀ x ∈ keysC C, x ∈ keyW
theorem KW.len {C : CL} (h : KW C) : C.length ≤ 6 := by
  rw [← len_keys]
  exact nodup_len h.nd h.keys
theorem KW.ck {C : CL} (h : KW C) : CK 6 C := ⟨h.nd, fun x hx => keyW_ok (h.keys x hx), h.len⟩
theorem KW.cv {n : Nat} {C : CL} (h : CV (· ∈ keyW) n C) : KW C := ⟨h.nd, h.keys⟩
theorem KW.join {A B : CL} (a : KW A) (b : KW B) (w : Option Int → Option Int → Option Int) : KW (joinC w A B) := by
  refine ⟨(nd_allK a.nd b.nd).sublist keys_mk, fun x hx => ?_⟩
  rcases mem_allK.mp (keys_mk.subset hx) with h | h
  · exact a.keys x h
  · exact b.keys x h
theorem KW.set {C : CL} (h : KW C) {k : Str} (hk : k ∈ keyW) (v : Int) : KW (setC C k v) := by
  have e := keys_set C k v
  by_cases hm : k ∈ keysC C
  · rw [if_pos hm] at e
    exact ⟨by rw [e]; exact h.nd, by rw [e]; exact h.keys⟩
  · rw [if_neg hm] at e
    refine ⟨?_, fun x hx => ?_⟩
    · rw [e]
      exact List.nodup_append.mpr ⟨h.nd, List.pairwise_singleton _ _, fun a ha b hb e => hm (by rw [List.mem_singleton.mp hb] at e; rw [← e]; exact ha)⟩
    · rw [e] at hx
      rcases List.mem_append.mp hx with hx | hx
      · exact h.keys x hx
      · rw [List.mem_singleton.mp hx]; exact hk
theorem KW.nil : KW [] := ⟨List.nodup_nil, fun _ h => nomatch h⟩
theorem kw_drawn {t : D} {lim : Nat} {p : Bool} (h : TapeOk t) (hl : lim ≤ 900) : ∃ C t', m_L_counter [t, .int lim, .bl p] = .ok (cT C) [t'] ∧ TapeOk t' ∧ KW C := by
  obtain ⟨σ, cs, t', e, h', v⟩ := counter_ok (lim := lim) (p := p) h hl
  refine ⟨σ.zip cs, t', ?_, h', KW.cv v.cv⟩
  rw [cntT_zip] at e
  exact e
end Lw
namespace Dt
open PySem
@[simp] theorem ev_row_fro (d : D) (cs : List Cell) : sRow (sLoc 0) (.fro (.tal d) :: cs) = .ok d (.fro (.tal d) :: cs) := rfl
@[simp] theorem ev_row_io (d : D) (cs : List Cell) : sRow (sLoc 0) (.io (.tal d) :: cs) = .ok d (.io (.tal d) :: cs) := rfl
theorem items_cT (C : CL) : itemsD (cT C) = some (C.map cD) := rfl
end Dt
namespace Lw
open Dt PySem
theorem nm_eq {a x : Str} (ha : NmOk a) (hx : NmOk x) : gEq [.str a, .str x] = some (.bl (a == x)) := by
  show (eqD _ _).map _ = _
  rw [eqD_nm ((ok_str (m := 8) (n := 0)).mpr ha.1) hx]
  rfl
section
variable {C : CL}
theorem counter_ok' {d : D} : m_T_counter [.tal d] = .ok d [] := by
  show runP 1 1 b_T_counter _ = _
  unfold runP b_T_counter
  simp
theorem init_ok' {n : Nat} (h : CK n C) (hn : n ≤ 1000) : m_T___init__ (cT C) = .ok (cT C) [] := by
  unfold m_T___init__
  rw [cnt_yes h hn]
end
theorem row2 (d : D) (c : Cell) (cs : List Cell) : sRow (sLoc 1) (c :: .fro (.tal d) :: cs) = .ok d (c :: .fro (.tal d) :: cs) := rfl
theorem isT2 (d : D) (c : Cell) (cs : List Cell) : sIsT (sLoc 1) (c :: .fro (.tal d) :: cs) = .ok (.bl true) (c :: .fro (.tal d) :: cs) := rfl
theorem alleq_ok {n m : Nat} {A B : CL} (a : CK n A) (b : CK m B) (hn : n ≤ 500 := by decide) (hm : m ≤ 500 := by decide) : m_all_equal [cT A, cT B] = .ok (.bl (eqC A B)) [] := by
  have c := comp_eq a b hn hm
  have ab := all_bl (ks := allK A B) (g := fun x => decide (val A x = val B x))
  show runP 5 2 b_all_equal _ = _
  unfold runP b_all_equal
  simp [gDict_cv a, gDict_cv b, line2, c, ab]
  rfl
theorem teq_ok {n m : Nat} {A B : CL} (a : CK n A) (b : CK m B) (hn : n ≤ 500 := by decide) (hm : m ≤ 500 := by decide) : m_T___eq__ [.tal (cT A), .tal (cT B)] = .ok (.bl (eqC A B)) [] := by
  show runP 2 2 b_T___eq__ _ = _
  unfold runP b_T___eq__
  simp [row2, isT2, D.truth, line2, alleq_ok a b hn hm]
end Lw
namespace Dt
open PySem
inductive Wy | add | less | most | least | upd | sub
def Wy.nm : Wy → Str
  | .add => "add"
  | .less => "less"
  | .most => "most"
  | .least => "least"
  | .upd => "update"
  | .sub => "subtract"
def Wy.op : Wy → Option Int → Option Int → Option Int
  | .add => ctP fun a b => a + b
  | .less => ctP fun a b => a - b
  | .most => ctP mx
  | .least => ctL
  | .upd => ctS 1
  | .sub => ctS (-1)
def Wy.all : List Wy := [.add, .less, .most, .least, .upd, .sub]
@[simp] theorem ev_rowSet (i : Nat) (s : SE) (ρ : Env) : sRowSet i s ρ = (s ρ).bind fun d ρ' => match held ρ' i with
  | some (.tal _) => .ok .nx (put ρ' i (.tal d))
  | _ => .stuck := rfl
@[simp] theorem held_io0 (d : D) (cs : List Cell) : held (.io d :: cs) 0 = some d := rfl
@[simp] theorem put_io0 (d e : D) (cs : List Cell) : put (.io d :: cs) 0 e = .io e :: cs := rfl
theorem runS_nx {m n : Nat} {body : SS} {d0 : D} {ds : List D} {ρ : Env} (e : body (Cell.io d0 :: ds.map Cell.fro ++ List.replicate (m - n) Cell.no) = .ok .nx ρ) : runS m n body (d0 :: ds) = .ok .non (lastIo ρ) := by
  unfold runS
  dsimp only
  rw [e]
theorem line3 : (3 : Nat) ≤ sizeLine := line_pos (by decide)
@[simp] theorem last_io (d : D) (cs : List Cell) : lastIo (.io d :: cs) = [d] := rfl
end Dt
namespace Lw
open Dt PySem
theorem ways_ok : m_L_ways [] = .ok (.lst (Wy.all.map fun y => D.str y.nm)) [] := by
  show runP 0 0 b_L_ways _ = _
  unfold runP b_L_ways
  have l6 : (6 : Nat) ≤ sizeLine := line_pos (by decide)
  simp [l6, Wy.all, Wy.nm]
theorem one_wy (y : Wy) (a b : Option Int) : m_one_count [.str y.nm, oD a, oD b] = .ok (oD (y.op a b)) [] := by
  cases y
  · exact one_add a b
  · exact one_less a b
  · exact one_most a b
  · exact one_least a b
  · exact one_update a b
  · exact one_subtract a b
theorem lone_wy (y : Wy) (a b : Option Int) : m_L_count [.str y.nm, oD a, oD b] = .ok (oD (y.op a b)) [] := by
  cases y
  · exact lone_add a b
  · exact lone_less a b
  · exact lone_most a b
  · exact lone_least a b
  · exact lone_update a b
  · exact lone_subtract a b
theorem jw_ok (y : Wy) {n m : Nat} {A B : CL} (a : CK n A) (b : CK m B) (hn : n ≤ 500 := by decide) (hm : m ≤ 500 := by decide) : m_joined [.str y.nm, cT A, cT B] = .ok (cT (joinC y.op A B)) [] := joined_ok (one_wy y) a b hn hm
theorem ljw_ok (y : Wy) {n m : Nat} {A B : CL} (a : CK n A) (b : CK m B) (hn : n ≤ 500 := by decide) (hm : m ≤ 500 := by decide) : m_L_joined [.str y.nm, cT A, cT B] = .ok (cT (joinC y.op A B)) [] := ljoined_ok (lone_wy y) a b hn hm
theorem lk_yes (d : D) : m_looked [.tal d] = .ok d [] := by
  show runP 1 1 b_looked _ = _
  unfold runP b_looked
  have h : sIsT (sLoc 0) [.fro (.tal d)] = .ok (.bl true) [.fro (.tal d)] := rfl
  simp [h, D.truth]
theorem lk_no {d : D} (h : isTal d = some false) : m_looked [d] = .exc ⟨"NoCounter", .non⟩ := by
  show runP 1 1 b_looked _ = _
  unfold runP b_looked
  have h : sIsT (sLoc 0) [.fro d] = .ok (.bl false) [.fro d] := by
    unfold sIsT
    simp [Cell.data, Opd.get, h]
  simp [h, D.truth]
section
variable {A B : CL}
theorem step_yes (y : Wy) {a b : Nat} (ha : CK a A) (hb : CK b B) (h1 : a ≤ 500 := by decide) (h2 : b ≤ 500 := by decide) : sRowSet 0 (sCallP 3 (m_joined) (sCons (sCst (.str y.nm)) (sCons (sRow (sLoc 0)) (sCons (sCallP 1 (m_looked) (sCons (sVar 1) sNil)) sNil)))) [.io (.tal (cT A)), .fro (.tal (cT B))] = .ok .nx [.io (.tal (cT (joinC y.op A B))), .fro (.tal (cT B))] := by
  simp [lk_yes, jw_ok y ha hb h1 h2, line1, line3]
theorem runS_yes (y : Wy) {a b : Nat} (ha : CK a A) (hb : CK b B) (h1 : a ≤ 500 := by decide) (h2 : b ≤ 500 := by decide) : runS 2 2 (sRowSet 0 (sCallP 3 (m_joined) (sCons (sCst (.str y.nm)) (sCons (sRow (sLoc 0)) (sCons (sCallP 1 (m_looked) (sCons (sVar 1) sNil)) sNil))))) [.tal (cT A), .tal (cT B)] = .ok .non [.tal (cT (joinC y.op A B))] := by
  have e := step_yes y ha hb h1 h2
  exact (runS_nx (m := 2) (n := 2) (d0 := .tal (cT A)) (ds := [.tal (cT B)]) e).trans rfl
theorem with_ok {n : Nat} {k : Str} {v : Int} (h : CK n A) (hn : n ≤ 500) (hk : NmOk k) : m_with_count [cT A, .str k, .int v] = .ok (cT (setC A k v)) [] := by
  have hl : A.length ≤ sizeLine := line_pos (by have := h.len; omega)
  have e1 := comp2a (i := 3) (j := 4) (s := sVar 3) (ρ := [.fro (cT A), .fro (.str k), .fro (.int v), .no, .no]) (C := A) (fun q => D.str q.1) (by decide) rfl rfl fun q hq => by simp
  have c1 : c0_with_count [.fro (cT A), .fro (.str k), .fro (.int v), .no, .no] = .ok (.lst ((keysC A).map D.str)) [.fro (cT A), .fro (.str k), .fro (.int v), .no, .no] := by
    unfold c0_with_count sComp
    simp [items_cT, plainAt, hl, wipeE, e1, backE, keysC, Function.comp_def]
  have e2 := comp2a (i := 3) (j := 4) (s := sTup (sCons (sVar 3) (sCons (sIf (sTst (sOps gEq (b2 (sLoc 3) (sLoc 1)))) (sVar 2) (sVar 4)) sNil))) (ρ := [.fro (cT A), .fro (.str k), .fro (.int v), .no, .no]) (C := A) (fun q => D.tup [.str q.1, .int (if q.1 = k then v else q.2)]) (by decide) rfl rfl fun q hq => by
    have he := nm_eq (cv_row h hq) hk
    by_cases hc : q.1 = k
    · rw [if_pos hc]
      have hb : (q.1 == k) = true := by simp [hc]
      simp [he, hb, line2]
    · rw [if_neg hc]
      have hb : (q.1 == k) = false := by simp [hc]
      simp [he, hb, line2]
  have c2 : c1_with_count [.fro (cT A), .fro (.str k), .fro (.int v), .no, .no] = .ok (.lst (A.map fun q => D.tup [.str q.1, .int (if q.1 = k then v else q.2)])) [.fro (cT A), .fro (.str k), .fro (.int v), .no, .no] := by
    unfold c1_with_count sComp
    simp [items_cT, plainAt, hl, wipeE, e2, backE]
  show runP 5 3 b_with_count _ = _
  unfold runP b_with_count
  by_cases hm : k ∈ keysC A
  · have es : setC A k v = A.map (fun p => (p.1, if p.1 = k then v else p.2)) := if_pos hm
    have et : cT (setC A k v) = .tup (A.map fun q => D.tup [.str q.1, .int (if q.1 = k then v else q.2)]) := by
      rw [es]
      show D.tup ((A.map _).map cD) = _
      rw [List.map_map]
      rfl
    have hi := in_keys k (keysC A)
    have hd : decide (k ∈ keysC A) = true := decide_eq_true hm
    rw [hd] at hi
    rw [et]
    simp [c1, hi, c2, gTuple]
  · have es : setC A k v = A ++ [(k, v)] := if_neg hm
    have et : cT (setC A k v) = .tup (A.map cD ++ [cD (k, v)]) := by
      rw [es]
      show D.tup ((A ++ [(k, v)]).map cD) = _
      rw [List.map_append]
      rfl
    have hi := in_keys k (keysC A)
    have hd : decide (k ∈ keysC A) = false := decide_eq_false hm
    rw [hd] at hi
    have ga : gAdd [cT A, .tup [.tup [.str k, .int v]]] = some (.tup (A.map cD ++ [cD (k, v)])) := add_tup (by rw [List.length_map]; have := h.len; simp; omega)
    rw [et]
    simp [c1, hi, line1, line2, ga]
theorem iset_yes {n : Nat} {k : Str} {v : Int} (h : CK n A) (hn : n ≤ 500) (hk : NmOk k) : m_T___setitem__ [.tal (cT A), .str k, .int v] = .ok .non [.tal (cT (setC A k v))] := by
  have n1 := name_ok ((ok_str (m := 8) (n := 0)).mpr hk.1) (by decide)
  have i1 : m_is_integer [.int v] = .ok (.bl true) [] := int_ok (m := 0) (n := 0) ok_int
  rw [hk.2] at n1
  show runI 3 3 b_T___setitem__ _ = _
  unfold runI b_T___setitem__
  simp [n1, i1, line1, line3, D.truth, with_ok h hn hk]
end
end Lw
namespace Dt
open PySem
theorem runNew_is {m n : Nat} {s1 : SS} {se : SE} {d0 d : D} {ds : List D} {ρ1 ρ2 : Env} (e1 : s1 (Cell.io d0 :: ds.map Cell.fro ++ List.replicate (m - n) Cell.no) = .ok .nx ρ1) (e2 : se ρ1 = .ok d ρ2) (h : ρ2[0]? = some (.io d0)) : runNew m n s1 se (d0 :: ds) = some d := by
  unfold runNew
  dsimp only
  rw [e1]
  dsimp only
  rw [e2]
  exact if_pos h
theorem tfrees_ints : ∀ C : CL, D.tfrees (C.map cD) = true
  | [] => rfl
  | p :: C => by
    show (D.tfree (cD p) && D.tfrees (C.map cD)) = true
    rw [tfrees_ints C]
    have e : D.tfree (cD p) = true := by
      show D.tfree (.tup [.str p.1, .int p.2]) = true
      rw [D.tfree]
      rfl
    rw [e]
    rfl
theorem cT_free (C : CL) : D.tfree (cT C) = true := by
  show D.tfree (.tup (C.map cD)) = true
  rw [D.tfree]
  exact tfrees_ints C
end Dt
namespace Lw
open Dt PySem
section
variable {A B : CL}
theorem new_ok (y : Wy) {a b : Nat} (ha : CK a A) (hb : CK b B) (hj : CK a (joinC y.op A B)) (h1 : a ≤ 500 := by decide) (h2 : b ≤ 500 := by decide) :
    runNew 2 2 (sIfS (tNotS (sTru (sVal (sIsT (sLoc 1))))) sNever sNx) (sMkT m_T___init__ (sCallP 3 (m_joined) (sCons (sCst (.str y.nm)) (sCons (sRow (sLoc 0)) (sCons (sRow (sLoc 1)) sNil))))) [.tal (cT A), .tal (cT B)] = some (.tal (cT (joinC y.op A B))) := by
  have j := jw_ok y ha hb h1 h2
  have i := init_ok' hj (by omega)
  refine runNew_is (d0 := .tal (cT A)) (ds := [.tal (cT B)]) (ρ1 := [.io (.tal (cT A)), .fro (.tal (cT B))]) (ρ2 := [.io (.tal (cT A)), .fro (.tal (cT B))]) ?_ ?_ rfl
  · generalize cT A = x
    generalize cT B = y
    simp [isT2, D.truth]
  · generalize cT A = x at *
    generalize cT B = z at *
    generalize cT (joinC y.op A B) = w at *
    unfold sMkT
    simp [row2, j, i]
theorem badd_ok (ha : KW A) (hb : KW B) : m_T___add__ [.tal (cT A), .tal (cT B)] = some (.tal (cT (joinC Wy.add.op A B))) := new_ok .add ha.ck hb.ck (ha.join hb _).ck
theorem bsub_ok (ha : KW A) (hb : KW B) : m_T___sub__ [.tal (cT A), .tal (cT B)] = some (.tal (cT (joinC Wy.less.op A B))) := new_ok .less ha.ck hb.ck (ha.join hb _).ck
theorem bor_ok (ha : KW A) (hb : KW B) : m_T___or__ [.tal (cT A), .tal (cT B)] = some (.tal (cT (joinC Wy.most.op A B))) := new_ok .most ha.ck hb.ck (ha.join hb _).ck
theorem band_ok (ha : KW A) (hb : KW B) : m_T___and__ [.tal (cT A), .tal (cT B)] = some (.tal (cT (joinC Wy.least.op A B))) := new_ok .least ha.ck hb.ck (ha.join hb _).ck
theorem iadd_ok (ha : KW A) (hb : KW B) : m_T___iadd__ [.tal (cT A), .tal (cT B)] = .ok .non [.tal (cT (joinC Wy.add.op A B))] := runS_yes .add ha.ck hb.ck
theorem one_new {way : Str} {s : Int} (ha : KW A) (ht : m_turned [.str way, cT A] = .ok (cT (turnC s A)) []) : runNew 1 1 sNx (sMkT m_T___init__ (sCallP 2 (m_turned) (sCons (sCst (.str way)) (sCons (sRow (sLoc 0)) sNil)))) [.tal (cT A)] = some (.tal (cT (turnC s A))) := by
  have i := init_ok' (C := turnC s A) (ha.ck.turn s) (by decide)
  refine runNew_is (d0 := .tal (cT A)) (ds := []) (ρ1 := [.io (.tal (cT A))]) (ρ2 := [.io (.tal (cT A))]) rfl ?_ rfl
  generalize cT A = x at *
  generalize cT (turnC s A) = w at *
  unfold sMkT
  simp [ht, i]
theorem pos_ok (ha : KW A) : m_T___pos__ [.tal (cT A)] = some (.tal (cT (turnC 1 A))) := one_new ha (turned_plus ha.ck (by decide))
theorem neg_ok (ha : KW A) : m_T___neg__ [.tal (cT A)] = some (.tal (cT (turnC (-1) A))) := one_new ha (turned_minus ha.ck (by decide))
theorem single_plus (a : KW A) : m_L_single [.str "plus", cT A] = .ok (cT (turnC 1 A)) [] := by
  have hl := a.len
  have c : c0_L_single = c0_turned := rfl
  show runP 5 2 b_L_single _ = _
  unfold runP b_L_single
  simp [gEq, D.truth, c, turn_comp mul_1 (show A.length ≤ 1000 by omega), gTuple]
  rfl
theorem single_minus (a : KW A) : m_L_single [.str "minus", cT A] = .ok (cT (turnC (-1) A)) [] := by
  have hl := a.len
  have c : c0_L_single = c0_turned := rfl
  show runP 5 2 b_L_single _ = _
  unfold runP b_L_single
  simp [gEq, D.truth, gNeg, c, turn_comp mul_m (show A.length ≤ 1000 by omega), gTuple]
  rfl
theorem allle_ok {n m : Nat} (a : CK n A) (b : CK m B) (hn : n ≤ 500 := by decide) (hm : m ≤ 500 := by decide) : m_all_at_most [cT A, cT B] = .ok (.bl (leC A B)) [] := by
  have c := comp_le a b hn hm
  have ab := all_bl (ks := allK A B) (g := fun x => decide (val A x ≤ val B x))
  show runP 5 2 b_all_at_most _ = _
  unfold runP b_all_at_most
  simp [gDict_cv a, gDict_cv b, line2, c, ab]
  rfl
theorem within_ok (a : KW A) (b : KW B) : m_T_within [.tal (cT A), .tal (cT B)] = .ok (.bl (leC A B)) [] := by
  have e := allle_ok a.ck b.ck
  generalize cT A = x at *
  generalize cT B = y at *
  show runP 2 2 b_T_within _ = _
  unfold runP b_T_within
  simp [lk_yes, line2, line1, e]
theorem within_no {d : D} (h : isTal d = some false) : m_T_within [.tal (cT A), d] = .exc ⟨"NoCounter", .non⟩ := by
  generalize cT A = x at *
  show runP 2 2 b_T_within _ = _
  unfold runP b_T_within
  simp [lk_no h]
theorem most_no {d : D} (h : m_is_integer [d] = .ok (.bl false) [] ∨ (m_is_integer [d] = .ok (.bl true) [] ∧ gLt [d, .int 0] = some (.bl true))) : m_T_most_common [.tal (cT A), d] = .exc ⟨"NoNumber", .non⟩ := by
  generalize cT A = x at *
  show runP 2 2 b_T_most_common _ = _
  unfold runP b_T_most_common
  rcases h with h | ⟨h, g⟩
  · simp [h, D.truth]
  · simp [h, g, D.truth]
theorem init_no {d : D} (h : m_is_counter [d] = .ok (.bl false) []) : m_T___init__ d = .exc ⟨"NoCounter", .non⟩ := by
  unfold m_T___init__
  rw [h]
theorem cnt_tal {d : D} : m_is_counter [.tal d] = .ok (.bl false) [] := by
  show runP 2 1 b_is_counter _ = _
  unfold runP b_is_counter
  simp [D.truth]
end
end Lw
namespace Dt
open PySem
theorem putC_set (k : Str) (v : Int) : ∀ C : CL, putC (keysC C) (C.map (·.2)) k v = (setC C k v).map (·.2) := fun C => by
  unfold putC setC
  by_cases h : k ∈ keysC C
  · rw [if_pos h, if_pos h, List.map_map]
    clear h
    induction C with
    | nil => rfl
    | cons p C ih =>
      show (if p.1 = k then v else p.2) :: List.zipWith _ (keysC C) (C.map (·.2)) = _
      rw [ih]
      rfl
  · rw [if_neg h, if_neg h, List.map_append]
    rfl
theorem items_dC : ∀ C : CL, gTupItems [dC C] = some (cT C) := fun C => by
  show some (D.tup (pairsD ((keysC C).map Sum.inr) (C.map fun p => .int p.2))) = some (D.tup (C.map cD))
  congr 2
  induction C with
  | nil => rfl
  | cons p C ih =>
    unfold pairsD at ih ⊢
    show (D.tup [.str p.1, .int p.2]) :: _ = _
    rw [List.map_cons, ← ih]
    rfl
end Dt
namespace Dt
open PySem
def bumpC (C : CL) (k : Str) : CL := setC C k (val C k + 1)
def cntC (ks : List Str) : CL := ks.foldl bumpC []
theorem put_dC {C : CL} {k : Str} {v : Int} (hl : C.length < 1000) : putD (dC C) (.str k) (.int v) = some (dC (setC C k v)) := by
  have w := dPut_cnt (keysC C) (C.map (·.2)) k v
  rw [List.map_map] at w
  have e1 : dPut ((keysC C).map Sum.inr) (C.map fun p => D.int p.2) (Sum.inr k) (.int v) = ((keysC (setC C k v)).map Sum.inr, (setC C k v).map fun p => D.int p.2) := by
    refine Eq.trans w ?_
    rw [putC_set, List.map_map]
    have hk : kindS (keysC C) k = keysC (setC C k v) := by rw [keys_set]; rfl
    rw [hk]
    rfl
  have h : ((keysC C).map (Sum.inr (α := Int))).length < sizeLine := by
    have := line_pos (n := 1000) (by decide)
    rw [List.length_map, len_keys]
    omega
  unfold dC
  simp only [putD, keyOf_str, Option.bind_some]
  rw [if_pos h, e1]
end Dt
namespace Lw
open Dt PySem
theorem bump_kw {C : CL} (h : KW C) {k : Str} (hk : k ∈ keyW) : KW (bumpC C k) := h.set hk _
theorem fold_kw : ∀ {ks : List Str} {C : CL}, KW C → (∀ k ∈ ks, k ∈ keyW) → KW (ks.foldl bumpC C)
  | [], _, h, _ => h
  | k :: ks, C, h, hk => fold_kw (ks := ks) (bump_kw h (hk k (.head _))) fun x hx => hk x (.tail _ hx)
theorem cnt_kw {ks : List Str} (hk : ∀ k ∈ ks, k ∈ keyW) : KW (cntC ks) := fold_kw KW.nil hk
theorem of_step {C : CL} {k : Str} {c0 c1 : Cell} (h : KW C) : t0_T_of [c0, c1, .own (dC C), .fro (.str k)] = .ok .nx [c0, c1, .own (dC (bumpC C k)), .fro (.str k)] := by
  have dg := put_dC (C := C) (k := k) (v := val C k + 1) (by have := h.len; omega)
  have lv := look_val C k
  have ga : gAdd [.int (val C k), .int 1] = some (.int (val C k + 1)) := rfl
  unfold t0_T_of bumpC
  unfold dC at *
  simp [lv, ga, dg]
theorem of_loop {c0 c1 : Cell} : ∀ (ks : List Str) {C : CL} {x3 : Option D}, KW C → (∀ k ∈ ks, k ∈ keyW) → ∃ y3, forGo (gSet 3) t0_T_of (ks.map D.str) [c0, c1, .own (dC C), pl x3] = .ok .nx [c0, c1, .own (dC (ks.foldl bumpC C)), pl y3]
  | [], C, x3, _, _ => ⟨x3, rfl⟩
  | k :: ks, C, x3, h, hk => by
    obtain ⟨y3, e⟩ := of_loop (c0 := c0) (c1 := c1) ks (x3 := some (.str k)) (bump_kw h (hk k (.head _))) fun x hx => hk x (.tail _ hx)
    have st := of_step (k := k) (c0 := c0) (c1 := c1) h
    refine ⟨y3, ?_⟩
    have e' : forGo (gSet 3) t0_T_of (ks.map D.str) [c0, c1, .own (dC (bumpC C k)), .fro (.str k)] = .ok .nx [c0, c1, .own (dC ((k :: ks).foldl bumpC C)), pl y3] := e
    have g : gSet 3 (.str k) [c0, c1, .own (dC C), pl x3] = .ok () [c0, c1, .own (dC C), .fro (.str k)] := by cases x3 <;> simp [pl]
    generalize dC C = x at *
    generalize dC (bumpC C k) = y at *
    rw [List.map_cons]
    unfold forGo
    rw [g, R.bind_ok, st, R.bind_ok]
    exact e'
theorem of_names {L : D} {ks : List Str} (hL : itemsD L = some (ks.map D.str)) (hl : ks.length ≤ 1000) (hk : ∀ k ∈ ks, k ∈ keyW) : c0_T_of [.fro (.fn "Tally"), .fro L, .no, .no] = .ok (.lst (ks.map fun _ => .bl true)) [.fro (.fn "Tally"), .fro L, .no, .no] := by
  have e := comp1e (enc := D.str) (i := 3) (ρ := [.fro (.fn "Tally"), .fro L, .no, .no]) (xs := ks) (s := sCallP 1 (m_is_name) (sCons (sVar 3) sNil)) (fun _ => .bl true) rfl fun k h => by
    have nm := keyW_ok (hk k h)
    have n1 := name_ok ((ok_str (m := 8) (n := 0)).mpr nm.1) (by decide)
    rw [nm.2] at n1
    simp [n1]
  have hz : ks.length ≤ sizeLine := line_pos (by omega)
  unfold c0_T_of sComp
  simp [hL, plain_cons, plain_nil, hz, wipeE, e, backE]
theorem tof_ok {L : D} {ks : List Str} (hL : itemsD L = some (ks.map D.str)) (hT : isTo ["list", "tuple"] L = some (.bl true)) (hl : ks.length ≤ 1000) (hk : ∀ k ∈ ks, k ∈ keyW) : m_T_of [.fn "Tally", L] = .ok (.tal (cT (cntC ks))) [] := by
  have n := of_names hL hl hk
  have al := all_bl (ks := ks) (g := fun _ => true)
  have al2 : ks.all (fun _ => true) = true := List.all_eq_true.mpr fun _ _ => rfl
  rw [al2] at al
  obtain ⟨y3, lp⟩ := of_loop (c0 := .fro (.fn "Tally")) (c1 := .fro L) ks (C := []) (x3 := none) KW.nil hk
  have lp : forGo (gSet 3) t0_T_of (ks.map D.str) [.fro (.fn "Tally"), .fro L, .own (dC []), .no] = .ok .nx [.fro (.fn "Tally"), .fro L, .own (dC (cntC ks)), pl y3] := lp
  have it := items_dC (cntC ks)
  have i := init_ok' (cnt_kw hk).ck (by decide)
  have eb : b_T_of [.fro (.fn "Tally"), .fro L, .no, .no] = .ok (.rt (.tal (cT (cntC ks)))) [.fro (.fn "Tally"), .fro L, .own (dC (cntC ks)), pl y3] := by
    have dn : (D.dct [] [] : D) = dC [] := rfl
    unfold b_T_of
    rw [dn]
    generalize dC (cntC ks) = z at *
    generalize cT (cntC ks) = w at *
    generalize dC [] = z0 at *
    refine (seq_nx (ρ' := [.fro (.fn "Tally"), .fro L, .no, .no]) (by simp [hT, D.truth, n, al])).trans ?_
    refine (seq_nx (ρ' := [.fro (.fn "Tally"), .fro L, .own z0, .no]) (by simp)).trans ?_
    refine (seq_nx (ρ' := [.fro (.fn "Tally"), .fro L, .own z, pl y3]) (by unfold l0_T_of sFor; simp [hL, lp])).trans ?_
    unfold sMkV sMkT
    simp [it, i]
  show runP 4 2 b_T_of _ = _
  unfold runP
  show (match b_T_of [.fro (.fn "Tally"), .fro L, .no, .no] with | .ok (.rt d) _ => FR.ok d [] | .ok .nx _ => .ok .non [] | .exc x _ => .exc x | _ => .stuck) = _
  rw [eb]
theorem of_no {d : D} (h : isTo ["list", "tuple"] d = some (.bl false)) : m_T_of [.fn "Tally", d] = .exc ⟨"NoName", .non⟩ := by
  show runP 4 2 b_T_of _ = _
  unfold runP b_T_of
  simp [h, D.truth]
theorem of_no1 {x : D} (hx : m_is_name [x] = .ok (.bl false) []) : m_T_of [.fn "Tally", .lst [x]] = .exc ⟨"NoName", .non⟩ := by
  have e := comp1e (enc := id) (i := 3) (ρ := [.fro (.fn "Tally"), .fro (.lst [x]), .no, .no]) (xs := [x]) (s := sCallP 1 (m_is_name) (sCons (sVar 3) sNil)) (fun _ => .bl false) rfl fun k h => by
    rw [List.mem_singleton.mp h]
    simp [hx]
  have e : compGo [3] (gSet 3) tT1 (sCallP 1 (m_is_name) (sCons (sVar 3) sNil)) [x] [.fro (.fn "Tally"), .fro (.lst [x]), .no, .no] = .ok [.bl false] [.fro (.fn "Tally"), .fro (.lst [x]), .no, .no] := e
  have c : c0_T_of [.fro (.fn "Tally"), .fro (.lst [x]), .no, .no] = .ok (.lst [.bl false]) [.fro (.fn "Tally"), .fro (.lst [x]), .no, .no] := by
    have hz : (1 : Nat) ≤ sizeLine := line_pos (by decide)
    unfold c0_T_of sComp
    simp [itemsD, plain_cons, plain_nil, hz, wipeE, e, backE]
  have al : gAll [.lst [.bl false]] = some (.bl false) := all_bl (ks := [("x" : Str)]) (g := fun _ => false)
  show runP 4 2 b_T_of _ = _
  unfold runP b_T_of
  simp [isT, isTn, tyN, D.truth, c, al]
end Lw
namespace Dt
open PySem
theorem gEqT_tup (g : List D → FR) (a : D) (C : CL) : gEqT g [.tal a, cT C] = some (.bl false) := rfl
theorem gEqT_int (g : List D → FR) (a : D) (i : Int) : gEqT g [.tal a, .int i] = some (.bl false) := rfl
theorem list_cT (C : CL) : gList [cT C] = some (.lst (C.map cD)) := rfl
end Dt
namespace Lw
open Dt PySem
theorem wd_c : wdX ⟨"NoCounter", .non⟩ = some (.str "counter") := by unfold wdX; simp
theorem wd_n : wdX ⟨"NoName", .non⟩ = some (.str "name") := by unfold wdX; simp
theorem wd_i : wdX ⟨"NoNumber", .non⟩ = some (.str "number") := by unfold wdX; simp
theorem ne_c : gNe [.str "counter", .str "counter"] = some (.bl false) := by
  show (eqD _ _).map _ = _
  rw [eqD_self (m := 100) (n := 0) (ok_str.mpr (by decide +kernel)) (by decide)]
  rfl
theorem ne_n : gNe [.str "name", .str "name"] = some (.bl false) := by
  show (eqD _ _).map _ = _
  rw [eqD_self (m := 100) (n := 0) (ok_str.mpr (by decide +kernel)) (by decide)]
  rfl
theorem ne_i : gNe [.str "number", .str "number"] = some (.bl false) := by
  show (eqD _ _).map _ = _
  rw [eqD_self (m := 100) (n := 0) (ok_str.mpr (by decide +kernel)) (by decide)]
  rfl
theorem eq_c : gEq [.str "counter", .str "counter"] = some (.bl true) := by
  show (eqD _ _).map _ = _
  rw [eqD_self (m := 100) (n := 0) (ok_str.mpr (by decide +kernel)) (by decide)]
  rfl
section
variable {f o s d : D} {A B : CL}
theorem odd0 (h : m_T_of [.fn "Tally", d] = .exc ⟨"NoName", .non⟩) : t0_L_odd_refused [.fro f, .fro o, .fro s, .fro d] = .ok .nx [.fro f, .fro o, .fro s, .fro d] := by
  have e : e0_L_odd_refused [.fro f, .fro o, .fro s, .fro d] = .exc ⟨"NoName", .non⟩ [.fro f, .fro o, .fro s, .fro d] := by
    unfold e0_L_odd_refused sCmT
    simp [h, endP]
  unfold t0_L_odd_refused
  simp [froOnly, e, wd_n, ne_n, D.truth]
theorem odd1 (h : m_T___init__ d = .exc ⟨"NoCounter", .non⟩) : t1_L_odd_refused [.fro f, .fro o, .fro s, .fro d] = .ok .nx [.fro f, .fro o, .fro s, .fro d] := by
  have e : e1_L_odd_refused [.fro f, .fro o, .fro s, .fro d] = .exc ⟨"NoCounter", .non⟩ [.fro f, .fro o, .fro s, .fro d] := by
    unfold e1_L_odd_refused sMkT
    simp [h]
  unfold t1_L_odd_refused
  simp [froOnly, e, wd_c, ne_c, D.truth]
theorem odd2 (h : m_T_most_common [.tal f, d] = .exc ⟨"NoNumber", .non⟩) : t2_L_odd_refused [.fro (.tal f), .fro o, .fro s, .fro d] = .ok .nx [.fro (.tal f), .fro o, .fro s, .fro d] := by
  have e : e2_L_odd_refused [.fro (.tal f), .fro o, .fro s, .fro d] = .exc ⟨"NoNumber", .non⟩ [.fro (.tal f), .fro o, .fro s, .fro d] := by
    unfold e2_L_odd_refused sMethP
    simp [h, endP]
  unfold t2_L_odd_refused
  simp [froOnly, e, wd_i, ne_i, D.truth]
theorem odd_loop {t : SS} {ds : List D} {x3 : Option D} (h : ∀ d ∈ ds, t [.fro f, .fro o, .fro s, .fro d] = .ok .nx [.fro f, .fro o, .fro s, .fro d]) : ∃ y3, forGo (gSet 3) t ds [.fro f, .fro o, .fro s, pl x3] = .ok .nx [.fro f, .fro o, .fro s, pl y3] := by
  induction ds generalizing x3 with
  | nil => exact ⟨x3, rfl⟩
  | cons d ds ih =>
    obtain ⟨y3, e⟩ := ih (x3 := some d) fun z hz => h z (.tail _ hz)
    have e : forGo (gSet 3) t ds [.fro f, .fro o, .fro s, .fro d] = _ := e
    have g : gSet 3 d [.fro f, .fro o, .fro s, pl x3] = .ok () [.fro f, .fro o, .fro s, .fro d] := by cases x3 <;> simp [pl]
    refine ⟨y3, ?_⟩
    unfold forGo
    rw [g, R.bind_ok, h d (.head _), R.bind_ok]
    exact e
theorem l0_ok {x3 : Option D} : ∃ y3, l0_L_odd_refused [.fro f, .fro o, .fro s, pl x3] = .ok .nx [.fro f, .fro o, .fro s, pl y3] := by
  have n1 : m_is_name [.str "A"] = .ok (.bl false) [] := name_ok (m := 8) (n := 0) (ok_str.mpr (by decide +kernel)) (by decide)
  have n2 : m_is_name [.int 5] = .ok (.bl false) [] := name_ok (m := 8) (n := 0) ok_int (by decide)
  have n3 : m_is_name [.lst [.str "x"]] = .ok (.bl false) [] := name_ok (m := 8) (n := 1) (ok_lst.mpr ⟨by decide, fun d hd => by rw [List.mem_singleton.mp hd]; exact ok_str.mpr (by decide +kernel)⟩) (by decide)
  obtain ⟨y3, e⟩ := odd_loop (f := f) (o := o) (s := s) (t := t0_L_odd_refused) (ds := [.non, .str "xy", .lst [.str "A"], .lst [.int 5], .lst [.lst [.str "x"]]]) (x3 := x3) fun d hd => by
    simp only [List.mem_cons, List.not_mem_nil, or_false] at hd
    rcases hd with rfl | rfl | rfl | rfl | rfl
    · exact odd0 (of_no rfl)
    · exact odd0 (of_no rfl)
    · exact odd0 (of_no1 n1)
    · exact odd0 (of_no1 n2)
    · exact odd0 (of_no1 n3)
  refine ⟨y3, ?_⟩
  unfold l0_L_odd_refused sFor
  simp [line1, line5, itemsD, e]
theorem l1_ok {x3 : Option D} {z : D} (a : KW A) : ∃ y3, l1_L_odd_refused [.fro f, .fro (cT A), .fro (.tal z), pl x3] = .ok .nx [.fro f, .fro (cT A), .fro (.tal z), pl y3] := by
  have oA := cv_ok a.ck (by decide)
  have ol : Ok 1000 2 (.lst (A.map cD)) := ok_lst.mpr (ok_tup.mp oA)
  have c4 := cnt_ok ol (by decide)
  obtain ⟨y3, e⟩ := odd_loop (f := f) (o := cT A) (s := .tal z) (t := t1_L_odd_refused) (ds := [.non, .int 5, .tup [.tup [.str "x", .non]], .lst (A.map cD), .tal z]) (x3 := x3) fun d hd => by
    simp only [List.mem_cons, List.not_mem_nil, or_false] at hd
    rcases hd with rfl | rfl | rfl | rfl | rfl
    · exact odd1 (init_no (cnt_ok (m := 8) (n := 0) ok_non (by decide)))
    · exact odd1 (init_no (cnt_ok (m := 8) (n := 0) ok_int (by decide)))
    · refine odd1 (init_no ?_)
      have o : Ok 8 2 (.tup [.tup [.str "x", .non]]) := ok_tup.mpr ⟨by decide, fun d hd => by
        rw [List.mem_singleton.mp hd]
        exact ok_tup.mpr ⟨by decide, fun d hd => by
          simp only [List.mem_cons, List.not_mem_nil, or_false] at hd
          rcases hd with rfl | rfl
          · exact ok_str.mpr (by decide +kernel)
          · exact ok_non⟩⟩
      have c := cnt_ok o (by decide)
      have cf : cntS (.tup [.tup [.str "x", .non]]) = false := by
        unfold cntS
        have r : rowC (.tup [.str "x", .non]) = false := by
          show (isN (.str "x") && isI .non) = false
          rw [show isI .non = false from rfl, Bool.and_false]
        simp [r]
      rw [cf] at c
      exact c
    · exact odd1 (init_no c4)
    · exact odd1 (init_no cnt_tal)
  refine ⟨y3, ?_⟩
  have lc := list_cT A
  generalize cT A = w at *
  generalize A.map cD = W at *
  unfold l1_L_odd_refused sFor
  simp [line1, line2, line5, lc, itemsD, e]
theorem l2_ok {x3 : Option D} : ∃ y3, l2_L_odd_refused [.fro (.tal (cT A)), .fro o, .fro s, pl x3] = .ok .nx [.fro (.tal (cT A)), .fro o, .fro s, pl y3] := by
  obtain ⟨y3, e⟩ := odd_loop (f := .tal (cT A)) (o := o) (s := s) (t := t2_L_odd_refused) (ds := [.int (-1), .non, .bl true, .str "1"]) (x3 := x3) fun d hd => by
    simp only [List.mem_cons, List.not_mem_nil, or_false] at hd
    rcases hd with rfl | rfl | rfl | rfl
    · exact odd2 (most_no (.inr ⟨int_ok (m := 8) (n := 0) ok_int, rfl⟩))
    · exact odd2 (most_no (.inl (int_ok (m := 8) (n := 0) ok_non)))
    · exact odd2 (most_no (.inl (int_ok (m := 8) (n := 0) ok_bl)))
    · exact odd2 (most_no (.inl (int_ok (m := 8) (n := 0) (ok_str.mpr (by decide +kernel)))))
  refine ⟨y3, ?_⟩
  generalize cT A = w at *
  unfold l2_L_odd_refused sFor
  simp [line4, gNeg, itemsD, e]
theorem odd_ok {z : D} (a : KW A) : m_L_odd_refused [.tal (cT B), cT A, .tal z] = .ok (.bl true) [] := by
  obtain ⟨x, e0⟩ := l0_ok (f := .tal (cT B)) (o := cT A) (s := .tal z) (x3 := none)
  obtain ⟨y, e1⟩ := l1_ok (f := .tal (cT B)) (z := z) (x3 := x) a
  obtain ⟨w, e2⟩ := l2_ok (A := B) (o := cT A) (s := .tal z) (x3 := y)
  have e0 : l0_L_odd_refused [.fro (.tal (cT B)), .fro (cT A), .fro (.tal z), .no] = _ := e0
  have wn := within_no (A := B) (d := cT A) rfl
  have g1 := gEqT_tup m_T___eq__ (cT B) A
  have g2 := gEqT_int m_T___eq__ (cT B) 5
  have e3 : ∀ c : Option D, sTried wdX e3_L_odd_refused [.fro (.tal (cT B)), .fro (cT A), .fro (.tal z), pl c] = .ok (.str "counter") [.fro (.tal (cT B)), .fro (cT A), .fro (.tal z), pl c] := fun c => by
    have e : e3_L_odd_refused [.fro (.tal (cT B)), .fro (cT A), .fro (.tal z), pl c] = .exc ⟨"NoCounter", .non⟩ [.fro (.tal (cT B)), .fro (cT A), .fro (.tal z), pl c] := by
      unfold e3_L_odd_refused sMethP
      simp [wn, endP]
    have ff : froOnly [.fro (.tal (cT B)), .fro (cT A), .fro (.tal z), pl c] = [.fro (.tal (cT B)), .fro (cT A), .fro (.tal z), pl c] := by cases c <;> rfl
    rw [ev_tried, ff, e]
    show ofO (wdX _) _ = _
    rw [wd_c]
    rfl
  have e3 := e3 w
  show runP 4 3 b_L_odd_refused _ = _
  have eb : b_L_odd_refused [.fro (.tal (cT B)), .fro (cT A), .fro (.tal z), .no] = .ok (.rt (.bl true)) [.fro (.tal (cT B)), .fro (cT A), .fro (.tal z), pl w] := by
    generalize cT A = aa at *
    generalize cT B = bb at *
    unfold b_L_odd_refused
    refine (seq_nx e0).trans ?_
    refine (seq_nx e1).trans ?_
    refine (seq_nx e2).trans ?_
    simp only [ev_ret]
    simp [-ev_tried, e3, eq_c, g1, g2, D.truth]
  unfold runP
  show (match b_L_odd_refused [.fro (.tal (cT B)), .fro (cT A), .fro (.tal z), .no] with | .ok (.rt d) _ => FR.ok d [] | .ok .nx _ => .ok .non [] | .exc x _ => .exc x | _ => .stuck) = _
  rw [eb]
end
end Lw
namespace Dt
open PySem
theorem made_is {j : Nat} {sa : SE} {sA : SA} {t1 t2 : ST} {kd vd a x y : D} {ds : List D} {g : List D → FR} {ρ : Env} (e1 : sa ρ = .ok (.tal a) ρ) (e2 : sA ρ = .ok ds ρ) (hf : (ρ.set j .no).all cellFreeT = true) (hio : ∀ e, ρ[j]? ≠ some (.io e)) (hj : j < ρ.length) (hz : ds.length + 1 ≤ sizeLine)
    (e3 : t1 (ρ.set j (.fro (.lst (.tal a :: ds)))) = .ok false (ρ.set j (.fro (.lst (.tal a :: ds))))) (e4 : t2 (ρ.set j (.fro (.lst (.tal a :: ds)))) = .ok false (ρ.set j (.fro (.lst (.tal a :: ds))))) (e5 : g [.tal a, kd, vd] = .ok x [y]) :
    sMade j sa sA t1 t2 kd vd g ρ = .ok .nx (ρ.set j .no) := by
  unfold sMade
  rw [e1]
  dsimp only
  rw [e2]
  dsimp only
  rw [if_pos ⟨rfl, rfl, hf, hio, hj, hz⟩, e3]
  dsimp only
  rw [e4]
  dsimp only
  rw [e5]
  dsimp only
  rw [if_pos ⟨rfl, rfl⟩]
theorem third_is {i j : Nat} {se : SE} {t : ST} {d0 k x y : D} {g : List D → FR} {ρ : Env} (hd : held ρ i = some (.tal d0)) (e1 : se (ρ.set j .no) = .ok k (ρ.set j .no)) (e2 : g [.tal d0, k] = .ok x [.tal y]) (hio : ∀ e, ρ[j]? ≠ some (.io e)) (hj : j < ρ.length) (ij : i ≠ j)
    (hf : ((ρ.set j .no).set i .no).all cellFreeT = true) (e3 : t (((ρ.set j .no).set i (.fro (.tal y))).set j (.fro (.tal y))) = .ok false (((ρ.set j .no).set i (.fro (.tal y))).set j (.fro (.tal y)))) :
    sThird i j se t g ρ = .ok .nx (put (ρ.set j .no) i (.tal y)) := by
  unfold sThird
  rw [hd]
  dsimp only
  rw [e1]
  dsimp only
  rw [e2]
  dsimp only
  rw [if_pos ⟨rfl, hio, hj, ij, hf⟩, e3]
  dsimp only
  rw [if_pos rfl]
theorem bin_is {i j : Nat} {g : List D → Option D} {ρ : Env} {a b z : D} (h1 : held ρ i = some (.tal a)) (h2 : ρ[j]? = some (.fro (.tal b))) (hg : g [.tal a, .tal b] = some z) : sBinT i g (sVar j) ρ = .ok z ρ := by
  have e : sVar j ρ = .ok (.tal b) ρ := by rw [ev_var, h2]
  unfold sBinT
  rw [h1]
  dsimp only
  rw [e, R.bind_ok, h1]
  dsimp only
  rw [hg]
  rfl
theorem un_is {i : Nat} {g : List D → Option D} {ρ : Env} {a z : D} (h1 : held ρ i = some (.tal a)) (hg : g [.tal a] = some z) : sUnT i g ρ = .ok z ρ := by
  unfold sUnT
  rw [h1]
  dsimp only
  rw [hg]
  rfl
theorem prop_is {g : List D → FR} {s : SE} {ρ ρ' : Env} {d v : D} {o : List D} (h : s ρ = .ok (.tal d) ρ') (hg : g [.tal d] = .ok v o) : sProp g s ρ = .ok v ρ' := by
  unfold sProp
  rw [h, R.bind_ok]
  dsimp only
  rw [hg]
theorem free_dC (C : CL) : cellFreeT (.own (dC C)) = true := by
  show D.tfrees (C.map fun p => .int p.2) = true
  induction C with
  | nil => rfl
  | cons p C ih => show (D.tfree (.int p.2) && D.tfrees (C.map fun p => .int p.2)) = true; rw [ih]; rfl
theorem free_tal (C : CL) : cellFreeT (.own (.tal (cT C))) = true := cT_free C
theorem free_pl (x : Option D) : cellFreeT (pl x) = true := by cases x <;> rfl
end Dt
namespace Lw
open Dt PySem
theorem tape_free {t : D} (h : TapeOk t) : cellFreeT (.own t) = true := by
  obtain ⟨ns, k, r, rfl⟩ := h
  have e : D.tfrees (ns.map D.int) = true := by
    induction ns with
    | nil => rfl
    | cons n ns ih => show (D.tfree (.int n) && D.tfrees (ns.map D.int)) = true; rw [ih]; rfl
  show D.tfrees [.lst (ns.map D.int), .int k, .int r] = true
  show (D.tfree (.lst (ns.map D.int)) && D.tfrees [.int k, .int r]) = true
  have e2 : D.tfree (.lst (ns.map D.int)) = true := by rw [D.tfree]; exact e
  rw [e2]
  rfl
theorem ne_self {m n : Nat} {d : D} (h : Ok m n d) (hn : n ≤ 60 := by decide) : gNe [d, d] = some (.bl false) := by
  show (eqD d d).map _ = _
  rw [eqD_self h hn]
  rfl
theorem ne_bl (b : Bool) : gNe [.bl b, .bl b] = some (.bl false) := by cases b <;> rfl
def four : List Wy := [.add, .less, .most, .least]
def fourD (A B : CL) : List D := four.map fun y => cT (joinC y.op A B)
theorem ne_four {A B : CL} (a : KW A) (b : KW B) : gNe [.lst (fourD A B), .lst (fourD A B)] = some (.bl false) := by
  refine ne_self (m := 1000) (n := 3) (ok_lst.mpr ⟨by show (4 : Nat) ≤ 1000; decide, fun d hd => ?_⟩)
  obtain ⟨y, _, rfl⟩ := List.mem_map.mp hd
  exact cv_ok (a.join b _).ck (by decide)
section
variable {S t d : D} {A B : CL} {c4 c5 c6 c7 : Cell}
/-- the environment of a turn -/
abbrev V26 (S t d : D) (c3 c4 c5 c6 c7 : Cell) (a b : D) (c10 c11 : Cell) : Dt.Env := [.fro S, .own t, .fro d, c3, c4, c5, c6, c7, .fro a, .fro b, c10, c11, .no, .no, .no]
theorem tals_comp {c3 : Cell} {a b : D} {c10 c11 : Cell} {zs : List D} (h3 : c3 = .fro (.lst (zs.map D.tal))) (hl : zs.length ≤ 1000) : c0_law (V26 S t d c3 c4 c5 c6 c7 a b c10 c11) = .ok (.lst zs) (V26 S t d c3 c4 c5 c6 c7 a b c10 c11) := by
  have e := comp1e (enc := D.tal) (i := 13) (ρ := V26 S t d c3 c4 c5 c6 c7 a b c10 c11) (xs := zs) (s := sProp m_T_counter (sVar 13)) id rfl fun k h => prop_is (by simp) counter_ok'
  rw [List.map_id] at e
  have hz : zs.length ≤ sizeLine := line_pos (by omega)
  subst h3
  unfold c0_law sComp
  simp [V26, itemsD, plain_cons, plain_nil, hz, wipeE] at e ⊢
  rw [e]
  simp [backE]
theorem ways_comp {c3 c10 c11 : Cell} (a : KW A) (b : KW B) : c1_law (V26 S t d c3 c4 c5 c6 c7 (cT A) (cT B) c10 c11) = .ok (.lst (fourD A B)) (V26 S t d c3 c4 c5 c6 c7 (cT A) (cT B) c10 c11) := by
  have e := comp1e (enc := fun y : Wy => .str y.nm) (i := 14) (ρ := V26 S t d c3 c4 c5 c6 c7 (cT A) (cT B) c10 c11) (xs := four) (s := sCallP 3 (m_L_joined) (sCons (sVar 14) (sCons (sVar 8) (sCons (sVar 9) sNil)))) (fun y => cT (joinC y.op A B)) rfl fun y h => by
    have j := ljw_ok y a.ck b.ck
    generalize cT A = aa at *
    generalize cT B = bb at *
    simp [j]
  have hs : sliceD (.lst (Wy.all.map fun y => D.str y.nm)) none (some 4) = some (.lst (four.map fun y => D.str y.nm)) := by
    rfl
  have wo := ways_ok
  have hz : (four.map fun y => D.str y.nm).length ≤ sizeLine := line_pos (by decide)
  have hf : fourD A B = four.map fun y => cT (joinC y.op A B) := rfl
  rw [hf]
  generalize (four.map fun y => cT (joinC y.op A B)) = Z at *
  generalize cT A = aa at *
  generalize cT B = bb at *
  generalize (four.map fun y => D.str y.nm) = W at *
  generalize (Wy.all.map fun y => D.str y.nm) = W0 at *
  unfold c1_law sComp
  simp [V26, wo, hs, itemsD, plain_cons, plain_nil, hz, wipeE] at e ⊢
  rw [e]
  simp [backE]
/-- made, asked, changed -/
theorem made_ok {x3 x4 x5 x7 x11 : Option D} (ht : TapeOk t) (a : KW A) (b : KW B) (f6 : cellFreeT c6 = true) :
    b0_law (V26 S t d .no .no (pl x5) c6 (pl x7) (cT A) (cT B) (.own (.tal (cT A))) (.fro (.tal (cT B)))) = .ok .nx (V26 S t d .no .no (pl x5) c6 (pl x7) (cT A) (cT B) (.own (.tal (cT A))) (.fro (.tal (cT B)))) := by
  have hb (c3 : Cell) {g : List D → Option D} {z : D} (h : g [.tal (cT A), .tal (cT B)] = some z) : sBinT 10 g (sVar 11) (V26 S t d c3 .no (pl x5) c6 (pl x7) (cT A) (cT B) (.own (.tal (cT A))) (.fro (.tal (cT B)))) = .ok z (V26 S t d c3 .no (pl x5) c6 (pl x7) (cT A) (cT B) (.own (.tal (cT A))) (.fro (.tal (cT B)))) := bin_is rfl rfl h
  have hu (c3 : Cell) {g : List D → Option D} {z : D} (h : g [.tal (cT A)] = some z) : sUnT 10 g (V26 S t d c3 .no (pl x5) c6 (pl x7) (cT A) (cT B) (.own (.tal (cT A))) (.fro (.tal (cT B)))) = .ok z (V26 S t d c3 .no (pl x5) c6 (pl x7) (cT A) (cT B) (.own (.tal (cT A))) (.fro (.tal (cT B)))) := un_is rfl h
  have s1 := hb .no (badd_ok a b)
  have s2 := hb .no (bsub_ok a b)
  have s3 := hb .no (bor_ok a b)
  have s4 := hb .no (band_ok a b)
  have pl1 := hu (.fro (.lst ((fourD A B).map D.tal))) (pos_ok a)
  have pl2 := hu (.fro (.lst ((fourD A B).map D.tal))) (neg_ok a)
  have u1 := prop_is (g := m_T_counter) pl1 counter_ok'
  have u2 := prop_is (g := m_T_counter) pl2 counter_ok'
  have v1 := single_plus a
  have v2 := single_minus a
  have n1 := ne_same (a.ck.turn 1)
  have n2 := ne_same (a.ck.turn (-1))
  have cA := tals_comp (S := S) (t := t) (d := d) (c4 := .no) (c5 := pl x5) (c6 := c6) (c7 := pl x7) (a := cT A) (b := cT B) (c10 := .own (.tal (cT A))) (c11 := .fro (.tal (cT B))) (zs := fourD A B) rfl (by show (4 : Nat) ≤ 1000; decide)
  have cB := ways_comp (S := S) (t := t) (d := d) (c3 := .fro (.lst ((fourD A B).map D.tal))) (c4 := .no) (c5 := pl x5) (c6 := c6) (c7 := pl x7) (c10 := .own (.tal (cT A))) (c11 := .fro (.tal (cT B))) a b
  have nf := ne_four a b
  have is : m_T___setitem__ [.tal (cT (joinC Wy.add.op A B)), .str "x", .int 77] = .ok .non [.tal (cT (setC (joinC Wy.add.op A B) "x" 77))] := iset_yes (a.join b _).ck (by decide) (keyW_ok (by unfold keyW; simp))
  refine made_is (j := 3) (a := cT (joinC Wy.add.op A B)) (ds := [.tal (cT (joinC Wy.less.op A B)), .tal (cT (joinC Wy.most.op A B)), .tal (cT (joinC Wy.least.op A B))]) s1 ?_ ?_ (by simp) (by simp) line4 ?_ ?_ is
  · simp only [ev_cons, s2, s3, s4, R.bind_ok, ev_nil]
  · have f1 := tape_free ht
    have f10 := free_tal A
    have fn : cellFreeT .no = true := rfl
    have ff : ∀ x : D, cellFreeT (.fro x) = true := fun _ => rfl
    show ([.fro S, .own t, .fro d, .no, .no, pl x5, c6, pl x7, .fro (cT A), .fro (cT B), .own (.tal (cT A)), .fro (.tal (cT B)), .no, .no, .no] : List Cell).all cellFreeT = true
    simp only [List.all_cons, List.all_nil, f1, f10, fn, ff, f6, free_pl, Bool.and_self]
  · show q0_law (V26 S t d (.fro (.lst ((fourD A B).map D.tal))) .no (pl x5) c6 (pl x7) (cT A) (cT B) (.own (.tal (cT A))) (.fro (.tal (cT B)))) = .ok false (V26 S t d (.fro (.lst ((fourD A B).map D.tal))) .no (pl x5) c6 (pl x7) (cT A) (cT B) (.own (.tal (cT A))) (.fro (.tal (cT B))))
    generalize (fourD A B).map D.tal = ZT at *
    generalize fourD A B = Z at *
    unfold q0_law
    simp only [ev_tst, ev_ops, ev_b2, ev_val, cA, cB, R.bind_ok]
    simp [nf, D.truth]
  · show q1_law (V26 S t d (.fro (.lst ((fourD A B).map D.tal))) .no (pl x5) c6 (pl x7) (cT A) (cT B) (.own (.tal (cT A))) (.fro (.tal (cT B)))) = .ok false (V26 S t d (.fro (.lst ((fourD A B).map D.tal))) .no (pl x5) c6 (pl x7) (cT A) (cT B) (.own (.tal (cT A))) (.fro (.tal (cT B))))
    generalize (fourD A B).map D.tal = ZT at *
    generalize cT (turnC 1 A) = p1 at *
    generalize cT (turnC (-1) A) = p2 at *
    generalize cT A = aa at *
    generalize cT B = bb at *
    unfold q1_law
    simp [u1, u2, v1, v2, n1, n2, D.truth]
end
end Lw
namespace Dt
open PySem
theorem gEqT_tal {g : List D → FR} {a b : D} {k : Bool} {o : List D} (h : g [.tal a, .tal b] = .ok (.bl k) o) : gEqT g [.tal a, .tal b] = some (.bl k) := by
  show (match g [.tal a, .tal b] with | .ok (.bl k) _ => some (.bl k) | _ => none : Option D) = _
  rw [h]
end Dt
namespace Lw
open Dt PySem
section
variable {S t d : D} {A B : CL}
theorem third_ok {x5 x7 : Option D} {c6 : Cell} (ht : TapeOk t) (a : KW A) (b : KW B) (f6 : cellFreeT c6 = true) :
    b1_law (V26 S t d .no .no (pl x5) c6 (pl x7) (cT A) (cT B) (.own (.tal (cT A))) (.fro (.tal (cT B)))) = .ok .nx (V26 S t d .no .no (pl x5) c6 (pl x7) (cT A) (cT B) (.own (.tal (cT (joinC Wy.add.op A B)))) (.fro (.tal (cT B)))) := by
  have kj := a.join b Wy.add.op
  have lj := ljw_ok .add a.ck b.ck
  have lj : m_L_joined [.str "add", cT A, cT B] = .ok (cT (joinC Wy.add.op A B)) [] := lj
  have nj := ne_same kj.ck
  have te := teq_ok kj.ck kj.ck
  have eqj : eqC (joinC Wy.add.op A B) (joinC Wy.add.op A B) = true := eqC_yes fun _ => rfl
  rw [eqj] at te
  have ge : gEqT m_T___eq__ [.tal (cT (joinC Wy.add.op A B)), .tal (cT (joinC Wy.add.op A B))] = some (.bl true) := gEqT_tal te
  have u := prop_is (g := m_T_counter) (s := sVar 10) (ρ := V26 S t d .no (.fro (.tal (cT (joinC Wy.add.op A B)))) (pl x5) c6 (pl x7) (cT A) (cT B) (.fro (.tal (cT (joinC Wy.add.op A B)))) (.fro (.tal (cT B)))) (ρ' := V26 S t d .no (.fro (.tal (cT (joinC Wy.add.op A B)))) (pl x5) c6 (pl x7) (cT A) (cT B) (.fro (.tal (cT (joinC Wy.add.op A B)))) (.fro (.tal (cT B)))) (d := cT (joinC Wy.add.op A B)) (by simp) counter_ok'
  refine third_is (i := 10) (j := 4) (d0 := cT A) (k := .tal (cT B)) (y := cT (joinC Wy.add.op A B)) (x := .non) rfl (by simp) (iadd_ok a b) (by simp) (by simp) (by decide) ?_ ?_
  · have f1 := tape_free ht
    have fn : cellFreeT .no = true := rfl
    have ff : ∀ x : D, cellFreeT (.fro x) = true := fun _ => rfl
    show ([.fro S, .own t, .fro d, .no, .no, pl x5, c6, pl x7, .fro (cT A), .fro (cT B), .no, .fro (.tal (cT B)), .no, .no, .no] : List Cell).all cellFreeT = true
    simp only [List.all_cons, List.all_nil, f1, fn, ff, f6, free_pl, Bool.and_self]
  · show q2_law (V26 S t d .no (.fro (.tal (cT (joinC Wy.add.op A B)))) (pl x5) c6 (pl x7) (cT A) (cT B) (.fro (.tal (cT (joinC Wy.add.op A B)))) (.fro (.tal (cT B)))) = .ok false (V26 S t d .no (.fro (.tal (cT (joinC Wy.add.op A B)))) (pl x5) c6 (pl x7) (cT A) (cT B) (.fro (.tal (cT (joinC Wy.add.op A B)))) (.fro (.tal (cT B))))
    generalize cT (joinC Wy.add.op A B) = jj at *
    generalize cT A = aa at *
    generalize cT B = bb at *
    unfold q2_law
    simp [u, lj, nj, ge, D.truth, line3]
theorem keys_made {c0 c2 c3 c4 c5 c6 c7 c8 c9 c10 c11 : Cell} : ∀ (ds : List D) {t : D}, TapeOk t → ∃ (ks : List Str) (t' : D), compGo [12] (gSet 12) tT1 (sCallI 1 1 (m_L_key) sNil) ds [c0, .own t, c2, c3, c4, c5, c6, c7, c8, c9, c10, c11, .no, .no, .no] = .ok (ks.map D.str) [c0, .own t', c2, c3, c4, c5, c6, c7, c8, c9, c10, c11, .no, .no, .no] ∧ TapeOk t' ∧ ks.length = ds.length ∧ ∀ k ∈ ks, k ∈ keyW
  | [], t, h => ⟨[], t, rfl, h, rfl, fun _ h => nomatch h⟩
  | d :: ds, t, h => by
    obtain ⟨k, t2, e2, h2, hk⟩ := key_ok h
    obtain ⟨ks, t3, e3, h3', hl, hc⟩ := keys_made (c0 := c0) (c2 := c2) (c3 := c3) (c4 := c4) (c5 := c5) (c6 := c6) (c7 := c7) (c8 := c8) (c9 := c9) (c10 := c10) (c11 := c11) ds h2
    refine ⟨k :: ks, t3, ?_, h3', by rw [List.length_cons, List.length_cons, hl], fun q hq => (List.mem_cons.mp hq).elim (fun e => e ▸ hk) (hc q)⟩
    unfold compGo
    simp [e2, endI, plain_cons, plain_nil, wipeE]
    rw [e3]
theorem keys_drawn {c0 c2 c3 c4 c5 c6 c7 c8 c9 c10 c11 : Cell} (h : TapeOk t) : ∃ (ks : List Str) (t' : D), c2_law [c0, .own t, c2, c3, c4, c5, c6, c7, c8, c9, c10, c11, .no, .no, .no] = .ok (.lst (ks.map D.str)) [c0, .own t', c2, c3, c4, c5, c6, c7, c8, c9, c10, c11, .no, .no, .no] ∧ TapeOk t' ∧ ks.length ≤ 8 ∧ ∀ k ∈ ks, k ∈ keyW := by
  obtain ⟨k, t1, e1, h1, hk⟩ := draw_len (m := 9) h (by decide) (by decide)
  have e1 : m_L_draw [t, .int 9] = .ok (.int k) [t1] := e1
  obtain ⟨ks, t2, e2, h2, hl, hc⟩ := keys_made (c0 := c0) (c2 := c2) (c3 := c3) (c4 := c4) (c5 := c5) (c6 := c6) (c7 := c7) (c8 := c8) (c9 := c9) (c10 := c10) (c11 := c11) (upto 0 k) h1
  refine ⟨ks, t2, ?_, h2, by rw [hl]; simp [upto]; omega, hc⟩
  have hr : rng1D [.int (k : Int)] = some (upto 0 k) := by simp [rng1D]; omega
  have hz : (upto 0 k).length ≤ sizeLine := line_pos (by simp [upto]; omega)
  unfold c2_law sComp
  simp [e1, endI, hr, plain_cons, plain_nil, hz, wipeE, e2, backE]
theorem due_step {C : CL} {k : Str} {c0 c1 c2 c3 c4 c5 c8 c9 c10 c11 : Cell} (h : KW C) : t0_law [c0, c1, c2, c3, c4, c5, .own (dC C), .fro (.str k), c8, c9, c10, c11, .no, .no, .no] = .ok .nx [c0, c1, c2, c3, c4, c5, .own (dC (bumpC C k)), .fro (.str k), c8, c9, c10, c11, .no, .no, .no] := by
  have dg := put_dC (C := C) (k := k) (v := val C k + 1) (by have := h.len; omega)
  have lv := look_val C k
  have ga : gAdd [.int (val C k), .int 1] = some (.int (val C k + 1)) := rfl
  unfold t0_law bumpC
  unfold dC at *
  simp [lv, ga, dg]
theorem due_loop {c0 c1 c2 c3 c4 c5 c8 c9 c10 c11 : Cell} : ∀ (ks : List Str) {C : CL} {x7 : Option D}, KW C → (∀ k ∈ ks, k ∈ keyW) → ∃ y7, forGo (gSet 7) t0_law (ks.map D.str) [c0, c1, c2, c3, c4, c5, .own (dC C), pl x7, c8, c9, c10, c11, .no, .no, .no] = .ok .nx [c0, c1, c2, c3, c4, c5, .own (dC (ks.foldl bumpC C)), pl y7, c8, c9, c10, c11, .no, .no, .no]
  | [], C, x7, _, _ => ⟨x7, rfl⟩
  | k :: ks, C, x7, h, hk => by
    obtain ⟨y7, e⟩ := due_loop (c0 := c0) (c1 := c1) (c2 := c2) (c3 := c3) (c4 := c4) (c5 := c5) (c8 := c8) (c9 := c9) (c10 := c10) (c11 := c11) ks (x7 := some (.str k)) (bump_kw h (hk k (.head _))) fun x hx => hk x (.tail _ hx)
    have st := due_step (k := k) (c0 := c0) (c1 := c1) (c2 := c2) (c3 := c3) (c4 := c4) (c5 := c5) (c8 := c8) (c9 := c9) (c10 := c10) (c11 := c11) h
    refine ⟨y7, ?_⟩
    have e' : forGo (gSet 7) t0_law (ks.map D.str) [c0, c1, c2, c3, c4, c5, .own (dC (bumpC C k)), .fro (.str k), c8, c9, c10, c11, .no, .no, .no] = .ok .nx [c0, c1, c2, c3, c4, c5, .own (dC ((k :: ks).foldl bumpC C)), pl y7, c8, c9, c10, c11, .no, .no, .no] := e
    have g : gSet 7 (.str k) [c0, c1, c2, c3, c4, c5, .own (dC C), pl x7, c8, c9, c10, c11, .no, .no, .no] = .ok () [c0, c1, c2, c3, c4, c5, .own (dC C), .fro (.str k), c8, c9, c10, c11, .no, .no, .no] := by cases x7 <;> simp [pl]
    generalize dC C = x at *
    generalize dC (bumpC C k) = y at *
    rw [List.map_cons]
    unfold forGo
    rw [g, R.bind_ok, st, R.bind_ok]
    exact e'
/-- what is read of the first tally -/
theorem lend1_ok {x5 x7 : Option D} {c6 : Cell} (ht : TapeOk t) (f6 : cellFreeT c6 = true) {a b : D} {C : CL} {s : SE} {v : D} (e : s (V26 S t d .no .no (pl x5) c6 (pl x7) a b (.fro (.tal (cT C))) (.fro (.tal (cT B)))) = .ok v (V26 S t d .no .no (pl x5) c6 (pl x7) a b (.fro (.tal (cT C))) (.fro (.tal (cT B))))) (hv : v.tfree = true) :
    sLendT 10 s (V26 S t d .no .no (pl x5) c6 (pl x7) a b (.own (.tal (cT C))) (.fro (.tal (cT B)))) = .ok v (V26 S t d .no .no (pl x5) c6 (pl x7) a b (.own (.tal (cT C))) (.fro (.tal (cT B)))) := by
  refine ev_lendT 10 _ _ (d := cT C) rfl e hv ?_
  have f1 := tape_free ht
  have fn : cellFreeT .no = true := rfl
  have ff : ∀ x : D, cellFreeT (.fro x) = true := fun _ => rfl
  show ([.fro S, .own t, .fro d, .no, .no, pl x5, c6, pl x7, .fro a, .fro b, .no, .fro (.tal (cT B)), .no, .no, .no] : List Cell).all cellFreeT = true
  simp only [List.all_cons, List.all_nil, f1, fn, ff, f6, free_pl, Bool.and_self]
/-- where a turn begins and ends -/
def Stand26 (S : D) (ρ : Dt.Env) : Prop := ∃ t x2 x5 c6 x7 x8 x9 c10 x11, ρ = [.fro S, .own t, pl x2, .no, .no, pl x5, c6, pl x7, pl x8, pl x9, c10, pl x11, .no, .no, .no] ∧ TapeOk t ∧ cellFreeT c6 = true ∧ (c6 = .no ∨ ∃ C, c6 = .own (dC C)) ∧ (c10 = .no ∨ ∃ C, c10 = .own (.tal (cT C)))
end
end Lw
namespace Lw
open Dt PySem
section
variable {S d : D}
theorem turn_ok {t : D} {x5 x7 x8 x9 x11 : Option D} {c6 c10 : Cell} (ht : TapeOk t) (f6 : cellFreeT c6 = true) (h6 : c6 = .no ∨ ∃ C, c6 = .own (dC C)) (h10 : c10 = .no ∨ ∃ C, c10 = .own (.tal (cT C))) :
    ∃ ρ', t1_law [.fro S, .own t, .fro d, .no, .no, pl x5, c6, pl x7, pl x8, pl x9, c10, pl x11, .no, .no, .no] = .ok .nx ρ' ∧ Stand26 S ρ' := by
  obtain ⟨A, t1, e1, h1, a⟩ := kw_drawn (lim := 5) (p := false) ht (by decide)
  obtain ⟨B, t2, e2, h2, b⟩ := kw_drawn (lim := 5) (p := false) h1 (by decide)
  have e1 : m_L_counter [t, .int 5, .bl false] = .ok (cT A) [t1] := e1
  have e2 : m_L_counter [t1, .int 5, .bl false] = .ok (cT B) [t2] := e2
  have ia := init_ok' a.ck (by decide)
  have ib := init_ok' b.ck (by decide)
  have md := made_ok (S := S) (t := t2) (d := d) (x3 := none) (x4 := none) (x5 := x5) (x7 := x7) (x11 := none) (c6 := c6) h2 a b f6
  have l1 := lend1_ok (S := S) (d := d) (x5 := x5) (x7 := x7) (c6 := c6) (a := cT A) (b := cT B) (B := B) (C := A) h2 f6 (prop_is (g := m_T_counter) (s := sVar 10) (d := cT A) (by simp) counter_ok') (cT_free A)
  have na := ne_same a.ck
  have nb := ne_same b.ck
  have ge := gEqT_tal (teq_ok a.ck b.ck)
  have le := leq_ok a.ck b.ck (by decide) (by decide)
  have wi := within_ok a b
  have ll := lle_ok a.ck b.ck (by decide) (by decide)
  have l2 := lend1_ok (S := S) (d := d) (x5 := x5) (x7 := x7) (c6 := c6) (a := cT A) (b := cT B) (B := B) (C := A) (s := sMethP 2 m_T_within (sVar 10) (sCons (sVar 11) sNil)) (v := .bl (leC A B)) h2 f6 (by
    generalize cT A = aa at *
    generalize cT B = bb at *
    unfold sMethP
    simp [wi, endP]) rfl
  have n1 := ne_bl (eqC A B)
  have n2 := ne_bl (leC A B)
  have th := third_ok (S := S) (t := t2) (d := d) (x5 := x5) (x7 := x7) (c6 := c6) h2 a b f6
  obtain ⟨ks, t3, e3, h3, hl, hk⟩ := keys_drawn (c0 := .fro S) (c2 := .fro d) (c3 := .no) (c4 := .no) (c5 := pl x5) (c6 := c6) (c7 := pl x7) (c8 := .fro (cT A)) (c9 := .fro (cT B)) (c10 := .own (.tal (cT (joinC Wy.add.op A B)))) (c11 := .fro (.tal (cT B))) h2
  obtain ⟨y7, e4⟩ := due_loop (c0 := .fro S) (c1 := .own t3) (c2 := .fro d) (c3 := .no) (c4 := .no) (c5 := .fro (.lst (ks.map D.str))) (c8 := .fro (cT A)) (c9 := .fro (cT B)) (c10 := .own (.tal (cT (joinC Wy.add.op A B)))) (c11 := .fro (.tal (cT B))) ks (x7 := x7) KW.nil hk
  have kc := cnt_kw hk
  have o1 := tof_ok (L := .lst (ks.map D.str)) (ks := ks) rfl rfl (by omega) hk
  have o2 := tof_ok (L := .tup (ks.map D.str)) (ks := ks) rfl rfl (by omega) hk
  have it := items_dC (cntC ks)
  have nk := ne_same kc.ck
  have od := odd_ok (A := A) (B := joinC Wy.add.op A B) (z := cT B) a
  have l3 := lend1_ok (S := S) (d := d) (x5 := some (.lst (ks.map D.str))) (x7 := y7) (c6 := .own (dC (cntC ks))) (a := cT A) (b := cT B) (B := B) (C := joinC Wy.add.op A B) (s := sCallP 3 (m_L_odd_refused) (sCons (sVar 10) (sCons (sVar 8) (sCons (sVar 11) sNil)))) (v := .bl true) h3 (free_dC _) (by
    generalize cT A = aa at *
    generalize cT B = bb at *
    generalize cT (joinC Wy.add.op A B) = jj at *
    simp [od]) rfl
  have hcnt : (ks.foldl bumpC []) = cntC ks := rfl
  rw [hcnt] at e4
  refine ⟨V26 S t3 d .no .no (.fro (.lst (ks.map D.str))) (.own (dC (cntC ks))) (pl y7) (cT A) (cT B) (.own (.tal (cT (joinC Wy.add.op A B)))) (.fro (.tal (cT B))), ?_, t3, some d, some (.lst (ks.map D.str)), .own (dC (cntC ks)), y7, some (cT A), some (cT B), .own (.tal (cT (joinC Wy.add.op A B))), some (.tal (cT B)), rfl, h3, free_dC _, .inr ⟨_, rfl⟩, .inr ⟨_, rfl⟩⟩
  have gtk : gTuple [.lst (ks.map D.str)] = some (.tup (ks.map D.str)) := rfl
  have dn : (D.dct [] [] : D) = dC [] := rfl
  have h10' : c10 = .no ∨ ∃ z, c10 = .own z := h10.elim .inl fun ⟨C, e⟩ => .inr ⟨_, e⟩
  have h6' : c6 = .no ∨ ∃ z, c6 = .own z := h6.elim .inl fun ⟨C, e⟩ => .inr ⟨_, e⟩
  clear h10 h6
  generalize dC (cntC ks) = z at *
  generalize cT (cntC ks) = w at *
  generalize ks.map D.str = Z at *
  generalize cT (joinC Wy.add.op A B) = jj at *
  generalize cT A = aa at *
  generalize cT B = bb at *
  generalize eqC A B = q1 at *
  generalize leC A B = q2 at *
  simp only [V26] at l1 l2 l3 md th ⊢
  have u11 : sProp m_T_counter (sVar 11) [.fro S, .own t2, .fro d, .no, .no, pl x5, c6, pl x7, .fro aa, .fro bb, .own (.tal aa), .fro (.tal bb), .no, .no, .no] = .ok bb [.fro S, .own t2, .fro d, .no, .no, pl x5, c6, pl x7, .fro aa, .fro bb, .own (.tal aa), .fro (.tal bb), .no, .no, .no] := prop_is (by simp) counter_ok'
  have of1 : sProp m_T_counter (sCmT 2 m_T_of (sCons (sVar 5) sNil)) [.fro S, .own t3, .fro d, .no, .no, .fro (.lst Z), .own z, pl y7, .fro aa, .fro bb, .own (.tal jj), .fro (.tal bb), .no, .no, .no] = .ok w [.fro S, .own t3, .fro d, .no, .no, .fro (.lst Z), .own z, pl y7, .fro aa, .fro bb, .own (.tal jj), .fro (.tal bb), .no, .no, .no] := prop_is (d := w) (by unfold sCmT; simp [o1, endP]) counter_ok'
  have of2 : sProp m_T_counter (sCmT 2 m_T_of (sCons (sOps gTuple (bCons (sLoc 5) bNil)) sNil)) [.fro S, .own t3, .fro d, .no, .no, .fro (.lst Z), .own z, pl y7, .fro aa, .fro bb, .own (.tal jj), .fro (.tal bb), .no, .no, .no] = .ok w [.fro S, .own t3, .fro d, .no, .no, .fro (.lst Z), .own z, pl y7, .fro aa, .fro bb, .own (.tal jj), .fro (.tal bb), .no, .no, .no] := prop_is (d := w) (by unfold sCmT; simp [gtk, o2, endP]) counter_ok'
  unfold t1_law
  refine (seq_nx (ρ' := [.fro S, .own t2, .fro d, .no, .no, pl x5, c6, pl x7, .fro aa, .fro bb, c10, pl x11, .no, .no, .no]) (by cases x8 <;> cases x9 <;> simp [pl, e1, e2, endI, line2])).trans ?_
  refine (seq_nx (ρ' := [.fro S, .own t2, .fro d, .no, .no, pl x5, c6, pl x7, .fro aa, .fro bb, .own (.tal aa), .fro (.tal bb), .no, .no, .no]) ?_).trans ?_
  · unfold sMkT
    rcases h10' with rfl | ⟨z10, rfl⟩ <;> cases x11 <;> simp [pl, ia, ib]
  refine (seq_nx md).trans ?_
  refine (seq_nx (ρ' := [.fro S, .own t2, .fro d, .no, .no, pl x5, c6, pl x7, .fro aa, .fro bb, .own (.tal aa), .fro (.tal bb), .no, .no, .no]) ?_).trans ?_
  · simp [l1, u11, na, nb, D.truth]
  refine (seq_nx (ρ' := [.fro S, .own t2, .fro d, .no, .no, pl x5, c6, pl x7, .fro aa, .fro bb, .own (.tal aa), .fro (.tal bb), .no, .no, .no]) ?_).trans ?_
  · simp [l2, ge, le, ll, n1, n2, D.truth, line2]
  refine (seq_nx th).trans ?_
  refine (seq_nx (ρ' := [.fro S, .own t3, .fro d, .no, .no, .own (.lst Z), c6, pl x7, .fro aa, .fro bb, .own (.tal jj), .fro (.tal bb), .no, .no, .no]) ?_).trans ?_
  · cases x5 <;> simp [pl, e3] at e3 ⊢ <;> simp [e3]
  refine (seq_nx (ρ' := [.fro S, .own t3, .fro d, .no, .no, .own (.lst Z), .own (dC []), pl x7, .fro aa, .fro bb, .own (.tal jj), .fro (.tal bb), .no, .no, .no]) ?_).trans ?_
  · rw [dn]
    rcases h6' with rfl | ⟨z6, rfl⟩ <;> simp
  refine (seq_nx (ρ' := [.fro S, .own t3, .fro d, .no, .no, .fro (.lst Z), .own z, pl y7, .fro aa, .fro bb, .own (.tal jj), .fro (.tal bb), .no, .no, .no]) ?_).trans ?_
  · unfold l0_law sFor
    simp [itemsD, e4]
  refine (seq_nx (ρ' := [.fro S, .own t3, .fro d, .no, .no, .fro (.lst Z), .own z, pl y7, .fro aa, .fro bb, .own (.tal jj), .fro (.tal bb), .no, .no, .no]) ?_).trans ?_
  · simp [of1, of2, it, nk, D.truth]
  have l3 : sLendT 10 (sCallP 3 (m_L_odd_refused) (sCons (sVar 10) (sCons (sVar 8) (sCons (sVar 11) sNil)))) [.fro S, .own t3, .fro d, .no, .no, .fro (.lst Z), .own z, pl y7, .fro aa, .fro bb, .own (.tal jj), .fro (.tal bb), .no, .no, .no] = .ok (.bl true) [.fro S, .own t3, .fro d, .no, .no, .fro (.lst Z), .own z, pl y7, .fro aa, .fro bb, .own (.tal jj), .fro (.tal bb), .no, .no, .no] := l3
  simp [l3, D.truth]
end
end Lw
namespace Lw
open Dt PySem
theorem cnt_etup : m_is_counter [.etup] = .ok (.bl true) [] := by
  show runP 2 1 b_is_counter _ = _
  unfold runP b_is_counter l0_is_counter sFor c0_is_counter sDComp
  simp [isT, isTn, tyN, D.truth, itemsD, forGo, dcompGo, plainAt, wipeE, backE, gLen, gEq]
theorem bool_etup : m_T___bool__ [.tal .etup] = .ok (.bl false) [] := by
  show runP 1 1 b_T___bool__ _ = _
  unfold runP b_T___bool__
  simp [gBoolR]
theorem eq_etup : m_all_equal [.etup, .tup [.tup [.str "x", .int 0]]] = .ok (.bl true) [] := by
  rfl
theorem teq_etup : m_T___eq__ [.tal .etup, .tal (.tup [.tup [.str "x", .int 0]])] = .ok (.bl true) [] := by
  show runP 2 2 b_T___eq__ _ = _
  unfold runP b_T___eq__
  simp [row2, isT2, D.truth, line2, eq_etup]
theorem x0_kw : KW [("x", 0)] := ⟨List.pairwise_singleton _ _, fun x hx => by
  have : x = "x" := List.mem_singleton.mp hx
  rw [this]
  unfold keyW
  simp⟩
theorem init_etup : m_T___init__ .etup = .ok .etup [] := by
  unfold m_T___init__
  rw [cnt_etup]
theorem init_x0 : m_T___init__ (.tup [.tup [.str "x", .int 0]]) = .ok (.tup [.tup [.str "x", .int 0]]) [] := init_ok' x0_kw.ck (by decide)
theorem plain : ∀ ns : List Int, ns.length ≤ 63 → (∀ z ∈ ns, PySem.Builtin.Int.intBits z ≤ 1048576) → ∃ o, m_law [.scr ns] = .ok (.bl true) o := fun ns hl hz => by
  have lp := for_inv (I := Stand26 (.scr ns)) (g := gSet 2) (s := t1_law) (ds := upto 0 14) (ρ := [.fro (.scr ns), .own (.lst [.lst (ns.map D.int), .int 0, .int 0]), .no, .no, .no, .no, .no, .no, .no, .no, .no, .no, .no, .no, .no])
    (fun d hd ρ ⟨t, x2, x5, c6, x7, x8, x9, c10, x11, e, ht, f6, h6, h10⟩ => by
      subst e
      obtain ⟨ρ', e1, st⟩ := turn_ok (S := .scr ns) (d := d) (x5 := x5) (x7 := x7) (x8 := x8) (x9 := x9) (x11 := x11) ht f6 h6 h10
      exact ⟨_, ρ', .nx, by cases x2 <;> simp [pl], e1, .inl rfl, st⟩) ⟨_, none, none, .no, none, none, none, .no, none, rfl, ⟨ns, 0, 0, rfl⟩, rfl, .inl rfl, .inl rfl⟩
  obtain ⟨ρ', e, t, x2, x5, c6, x7, x8, x9, c10, x11, rfl, ht, _, _, _⟩ := lp
  have hr : rng1D [.int 14] = some (upto 0 14) := by simp [rng1D]
  have ge := gEqT_tal teq_etup
  have gn : gNotT m_T___bool__ [.tal .etup] = some (.bl true) := by
    show (match m_T___bool__ [.tal .etup] with | .ok (.bl b) _ => some (.bl (!b)) | _ => none : Option D) = _
    rw [bool_etup]
    rfl
  have i0 := init_etup
  have i1 := init_x0
  refine ⟨[], ?_⟩
  have eb : b_law [.fro (.scr ns), .no, .no, .no, .no, .no, .no, .no, .no, .no, .no, .no, .no, .no, .no] = .ok (.rt (.bl true)) [.fro (.scr ns), .own t, pl x2, .no, .no, pl x5, c6, pl x7, pl x8, pl x9, c10, pl x11, .no, .no, .no] := by
    unfold b_law
    refine (seq_nx (ρ' := [.fro (.scr ns), .own (.lst [.lst (ns.map D.int), .int 0, .int 0]), .no, .no, .no, .no, .no, .no, .no, .no, .no, .no, .no, .no, .no]) (by simp [gList, line3])).trans ?_
    refine (seq_nx (ρ' := [.fro (.scr ns), .own t, pl x2, .no, .no, pl x5, c6, pl x7, pl x8, pl x9, c10, pl x11, .no, .no, .no]) (by unfold l1_law sFor; simp [line1, hr, e])).trans ?_
    unfold sMkT
    simp [i0, i1, ge, gn, line1, line2, D.truth]
  show runP 15 1 b_law _ = _
  unfold runP
  show (match b_law [.fro (.scr ns), .no, .no, .no, .no, .no, .no, .no, .no, .no, .no, .no, .no, .no, .no] with | .ok (.rt d) _ => FR.ok d [] | .ok .nx _ => .ok .non [] | .exc x _ => .exc x | _ => .stuck) = _
  rw [eb]
end Lw
open PySem PySem.W PyProof.Rows in
set_option maxRecDepth 100000 in
set_option maxHeartbeats 0 in
theorem PySem.Challenge.cw_countersums_k26_whole_tallies_by_operato_holds : PySem.Challenge.rw_countersums_k26_whole_tallies_by_operato.Holds := by
  w_on; o_law; k_head; (case hw => w_witness2)
  k_fill
  refine Lw.walk (l := PySem.Challenge.rw_countersums_k26_whole_tallies_by_operato) rfl rfl (by rfl) (fun w h Y => PySem.W.km_in_of Y) ?F Lw.plain
  case F =>
    intro w mg fa h KX G hmg
    letI : Dt.HW := ⟨w⟩
    haveI : Dt.TW w := ⟨rfl⟩
    refine' Lw.all_mk KX G hmg ?aT ?a0 ?l0 ?c0 ?k0 ?a1 ?l1 ?c1 ?k1 ?a2 ?l2 ?c2 ?k2 ?a3 ?l3 ?c3 ?k3 ?a4 ?l4 ?c4 ?k4 ?a5 ?l5 ?c5 ?k5 ?a6 ?l6 ?c6 ?k6 ?a7 ?l7 ?c7 ?k7 ?a8 ?l8 ?c8 ?k8 ?a9 ?l9 ?c9 ?k9 ?a10 ?l10 ?c10 ?k10 ?a11 ?l11 ?c11 ?k11 ?a12 ?l12 ?c12 ?k12 ?a13 ?l13 ?c13 ?k13 ?lt0 ?la0 ?a14 ?l14 ?c14 ?k14 ?a15 ?l15 ?c15 ?k15 ?a16 ?l16 ?c16 ?k16 ?a17 ?l17 ?c17 ?k17 ?a18 ?l18 ?c18 ?k18 ?a19 ?l19 ?c19 ?k19 ?a20 ?l20 ?c20 ?k20 ?a21 ?l21 ?c21 ?k21 ?a22 ?l22 ?c22 ?k22 ?ap23 ?a23 ?l23 ?c23 ?k23 ?ab24 ?ac24 ?a24 ?l24 ?c24 ?k24 ?a25 ?l25 ?c25 ?k25 ?a26 ?l26 ?c26 ?k26 ?a27 ?l27 ?c27 ?k27 ?a28 ?l28 ?c28 ?k28 ?a29 ?l29 ?c29 ?k29 ?a30 ?l30 ?c30 ?k30 ?a31 ?l31 ?c31 ?k31 ?a32 ?l32 ?c32 ?k32 ?a33 ?l33 ?c33 ?k33 ?a34 ?l34 ?c34 ?k34 ?a35 ?l35 ?c35 ?k35 ?a36 ?l36 ?c36 ?k36 ?a37 ?l37 ?c37 ?k37 ?a38 ?l38 ?c38 ?k38 ?a39 ?l39 ?c39 ?k39 ?a40 ?l40 ?c40 ?k40 ?tb1 ?tb2 ?tb3 ?tb4 ?z0 ?z1 ?z2 ?z3 ?z4 ?z5 ?z6 ?z7 ?z8 ?z9 ?z10 ?z11 ?z12 ?z13 ?y0 ?ea0 ?ea1 ?ea2 ?ea3 ?ea4 ?ea5 ?ea6 ?ea7 ?ea8 ?ea9 ?ea10 ?ed0 ?eb0 ?ed5 ?eb5 ?ed6 ?eb6 ?x3F ?y3F ?x7F ?y7F ?x10F ?y10F ?x11F ?y11F ?x13F ?mk1 ?mk2 ?x14F ?y14F ?x15F ?y15F ?x16F ?y16F ?x17F ?y17F ?pg23 ?pt23 ?fi24 ?rd24 ?ga24 ?x25F ?x27F ?x32F ?y32F ?x34F ?y34F ?tcA ?tiA ?tu0 ?teA
    (case aT => k_is)
    (case a0 => k_is)
    (case l0 => k_is)
    (case c0 => k_is)
    (case k0 => k_is)
    (case a1 => k_is)
    (case l1 => k_is)
    (case c1 => k_is)
    (case k1 => k_is)
    (case a2 => k_is)
    (case l2 => k_is)
    (case c2 => k_is)
    (case k2 => k_is)
    (case a3 => k_is)
    (case l3 => k_is)
    (case c3 => k_is)
    (case k3 => k_is)
    (case a4 => k_is)
    (case l4 => k_is)
    (case c4 => k_is)
    (case k4 => k_is)
    (case a5 => k_is)
    (case l5 => k_is)
    (case c5 => k_is)
    (case k5 => k_is)
    (case a6 => k_is)
    (case l6 => k_is)
    (case c6 => k_is)
    (case k6 => k_is)
    (case a7 => k_is)
    (case l7 => k_is)
    (case c7 => k_is)
    (case k7 => k_is)
    (case a8 => k_is)
    (case l8 => k_is)
    (case c8 => k_is)
    (case k8 => k_is)
    (case a9 => k_is)
    (case l9 => k_is)
    (case c9 => k_is)
    (case k9 => k_is)
    (case a10 => k_is)
    (case l10 => k_is)
    (case c10 => k_is)
    (case k10 => k_is)
    (case a11 => k_is)
    (case l11 => k_is)
    (case c11 => k_is)
    (case k11 => k_is)
    (case a12 => k_is)
    (case l12 => k_is)
    (case c12 => k_is)
    (case k12 => k_is)
    (case a13 => k_is)
    (case l13 => k_is)
    (case c13 => k_is)
    (case k13 => k_is)
    (case lt0 => k_is)
    (case la0 => k_is)
    (case a14 => k_is)
    (case l14 => k_is)
    (case c14 => k_is)
    (case k14 => k_is)
    (case a15 => k_is)
    (case l15 => k_is)
    (case c15 => k_is)
    (case k15 => k_is)
    (case a16 => k_is)
    (case l16 => k_is)
    (case c16 => k_is)
    (case k16 => k_is)
    (case a17 => k_is)
    (case l17 => k_is)
    (case c17 => k_is)
    (case k17 => k_is)
    (case a18 => k_is)
    (case l18 => k_is)
    (case c18 => k_is)
    (case k18 => k_is)
    (case a19 => k_is)
    (case l19 => k_is)
    (case c19 => k_is)
    (case k19 => k_is)
    (case a20 => k_is)
    (case l20 => k_is)
    (case c20 => k_is)
    (case k20 => k_is)
    (case a21 => k_is)
    (case l21 => k_is)
    (case c21 => k_is)
    (case k21 => k_is)
    (case a22 => k_is)
    (case l22 => k_is)
    (case c22 => k_is)
    (case k22 => k_is)
    (case ap23 => k_is)
    (case a23 => k_is)
    (case l23 => k_is)
    (case c23 => k_is)
    (case k23 => k_is)
    (case ab24 => k_is)
    (case ac24 => k_is)
    (case a24 => k_is)
    (case l24 => k_is)
    (case c24 => k_is)
    (case k24 => k_is)
    (case a25 => k_is)
    (case l25 => k_is)
    (case c25 => k_is)
    (case k25 => k_is)
    (case a26 => k_is)
    (case l26 => k_is)
    (case c26 => k_is)
    (case k26 => k_is)
    (case a27 => k_is)
    (case l27 => k_is)
    (case c27 => k_is)
    (case k27 => k_is)
    (case a28 => k_is)
    (case l28 => k_is)
    (case c28 => k_is)
    (case k28 => k_is)
    (case a29 => k_is)
    (case l29 => k_is)
    (case c29 => k_is)
    (case k29 => k_is)
    (case a30 => k_is)
    (case l30 => k_is)
    (case c30 => k_is)
    (case k30 => k_is)
    (case a31 => k_is)
    (case l31 => k_is)
    (case c31 => k_is)
    (case k31 => k_is)
    (case a32 => k_is)
    (case l32 => k_is)
    (case c32 => k_is)
    (case k32 => k_is)
    (case a33 => k_is)
    (case l33 => k_is)
    (case c33 => k_is)
    (case k33 => k_is)
    (case a34 => k_is)
    (case l34 => k_is)
    (case c34 => k_is)
    (case k34 => k_is)
    (case a35 => k_is)
    (case l35 => k_is)
    (case c35 => k_is)
    (case k35 => k_is)
    (case a36 => k_is)
    (case l36 => k_is)
    (case c36 => k_is)
    (case k36 => k_is)
    (case a37 => k_is)
    (case l37 => k_is)
    (case c37 => k_is)
    (case k37 => k_is)
    (case a38 => k_is)
    (case l38 => k_is)
    (case c38 => k_is)
    (case k38 => k_is)
    (case a39 => k_is)
    (case l39 => k_is)
    (case c39 => k_is)
    (case k39 => k_is)
    (case a40 => k_is)
    (case l40 => k_is)
    (case c40 => k_is)
    (case k40 => k_is)
    (case tb1 => k_is)
    (case tb2 => rfl)
    (case tb3 => kernel_rfl)
    (case tb4 => kernel_rfl)
    (case z0 => k_is)
    (case z1 => k_is)
    (case z2 => k_is)
    (case z3 => k_is)
    (case z4 => k_is)
    (case z5 => k_is)
    (case z6 => k_is)
    (case z7 => k_is)
    (case z8 => k_is)
    (case z9 => k_is)
    (case z10 => k_is)
    (case z11 => k_is)
    (case z12 => k_is)
    (case z13 => k_is)
    (case y0 => k_is)
    (case ea0 => k_is)
    (case ea1 => k_is)
    (case ea2 => k_is)
    (case ea3 => k_is)
    (case ea4 => k_is)
    (case ea5 => k_is)
    (case ea6 => k_is)
    (case ea7 => k_is)
    (case ea8 => k_is)
    (case ea9 => k_is)
    (case ea10 => k_is)
    (case ed0 => constructor <;> first | k_is | k_exc)
    (case eb0 => constructor <;> kit_is)
    (case ed5 => constructor <;> first | k_is | k_exc)
    (case eb5 => constructor <;> kit_is)
    (case ed6 => constructor <;> first | k_is | k_exc)
    (case eb6 => constructor <;> kit_is)
    (case x3F => k_is)
    (case y3F => k_is)
    (case x7F => k_is)
    (case y7F => k_is)
    (case x10F => k_is)
    (case y10F => k_is)
    (case x11F => k_is)
    (case y11F => k_is)
    (case x13F => k_is)
    (case mk1 => k_is)
    (case mk2 => k_is)
    (case x14F => k_is)
    (case y14F => k_is)
    (case x15F => k_is)
    (case y15F => k_is)
    (case x16F => k_is)
    (case y16F => k_is)
    (case x17F => k_is)
    (case y17F => k_is)
    (case pg23 => k_is)
    (case pt23 => k_is)
    (case fi24 => k_is)
    (case rd24 => k_is)
    (case ga24 => k_is)
    (case x25F => k_is)
    (case x27F => k_is)
    (case x32F => k_is)
    (case y32F => k_is)
    (case x34F => k_is)
    (case y34F => k_is)
    (case tcA => constructor <;> k_is)
    (case tiA => constructor <;> first | k_is | kit_is)
    (case tu0 => kit_is)
    (case teA => constructor <;> first | k_is | kit_is)
