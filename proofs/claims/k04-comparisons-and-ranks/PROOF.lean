import PyProof.Rows.All
import Wide.All
import OpenK.AllK
import Wide.FinOn
import HandS.ForMost
import HandS.ForExc
import HandS.Flow
import HandS.Style
import HandS.IsInst
import HandS.Wide
import HandS.TupAny
import HandS.EndBits
import HandS.Walk
import HandS.TupMul
import HandS.DictComp
import HandS.TupLe
import HandS.Deep
import HandS.More
import HandS.Lambda
import HandS.ExcCtx
import HandS.HotCalls
import HandS.EndTab
import KE.KeyNested
import HandS.NoneIn
import HandS.Strs
import HandS.ListItems
import HandS.RevTup
import KE.KDictPairs
import HandS.Star
import HandS.CallLocal
import HandS.Zip
import PyProof.DictUpdate
import PyProof.Rows.TupTab
import KE.GoesEnum
import KE.DataCmp
import PyProof.ExcBaseAll.ValueError
import HandS.ExcIs
import HandS.EndOwn
import KE.KNestM
import HandS.SetFor
import KE.KDictSum
import HandS.Codes
import HandS.GenBody
import HandS.GenYield
import HandS.GenCall
import HandS.GenList
import KE.KSortKey
import HandS.SortOrd
import HandS.SortInts
import HandS.SortRule
import PySem.Challenge.RW_countersums_k04_whole_comparisons_and_ra
set_option Elab.async false
set_option linter.all false
set_option maxRecDepth 100000
set_option maxHeartbeats 2000000
/-! Plain data, what represents it in the abstract heap, and the relation of a plain environment to slots and heap. -/
namespace Dt
open PySem PySem.Spec PyProof.Rows L2

/-- plain data -/
inductive D where
  | non | bl (b : Bool) | int (i : Int) | str (s : Str)
  | tup (xs : List D) | lst (xs : List D) | dct (ks : List Key) (xs : List D) | scr (ns : List Int) | arg (xs : List D) | fn (nm : Str)
  /-- a dict with nested tuples as keys -/
  | nd (ks : List D) (xs : List D)
  /-- what lies at a, no more told of it -/
  | exn (a : Addr)
  deriving Inhabited

/-- the tuple at a, its object told: it has no dictionary of its own -/
def TupC (F : Hp) (a : Addr) (xs : List V) : Prop := ∃ o : Obj, o.dict = none ∧ F a = some (.frz o (.tup xs))
theorem TupC.sq {K : PySem.W.Frag} {F : Hp} {a : Addr} {xs : List V} (h : TupC F a xs) : SqT K F a xs := let ⟨o, _, e⟩ := h; .inl (.inr ⟨o, e⟩)
theorem TupC.new {F : Hp} {a : Addr} {xs : List V} {o : Obj} (d : o.dict = none) : TupC (upd F a (.frz o (.tup xs))) a xs := ⟨o, d, upd_same⟩
/-- where the def of that name lies -/
def fnA (K : PySem.W.Frag) (nm : Str) : Addr := match PySem.W.nsIn K mainGlobals nm with
  | some (some (.ref a)) => a
  | _ => 0
mutual
/-- the key that a datum is -/
def nk : D → Option NestedKey
  | .bl b => some (.num (if b = true then 1 else 0))
  | .int i => some (.num i)
  | .tup ds => (nks ds).map .tup
  | _ => none
def nks : List D → Option (List NestedKey)
  | [] => some []
  | d :: ds => (nk d).bind fun k => (nks ds).map fun ks => k :: ks
end
/-- a tuple that is a key -/
def nkey : D → Option NestedKey
  | .tup ds => match nk (.tup ds) with
    | some k => if k.depth ≤ 8 then some k else none
    | none => none
  | _ => none
/-- what stands at p is just this object -/
def AtO (p : Addr) (ob : Obj) : HO := .ext fun h => h.get? p = some ob
/-- the object ob at p is a dict of these rows: keys, where they lie, values -/
structure NdC (p : Addr) (ob : Obj) (xs : List (NestedKey × Addr × Value)) (ks : List D) (vs : List V) : Prop where
  ns : (p == sysModules) = false
  ex : ob.ExactDict
  en : ∃ es ep, ob.data = .dict es ep ∧ ∀ (P : Program) (w : World), es.toList = xs.map (entryOfKey (nestedKind P w))
  nod : (xs.map (·.1)).Nodup
  vals : Vals vs (xs.map fun x => x.2.2)
  keys : ks.map nkey = xs.map fun x => some x.1
/-- a dict that is data is locked for good: so it may be walked -/
def lk (o : Obj) : HO → HO
  | .dK kvs => .frz o (.dK kvs)
  | .ext φ => .frz o (.ext φ)
  | u => u
/-- what may be locked -/
def Lkb (u : HO) : Prop := (∃ xs, u = .lst xs) ∨ (∃ kvs, u = .dK kvs) ∨ ∃ φ, u = .ext φ
mutual
/-- v stands for the data in the frozen heap F -/
inductive Rp (K : PySem.W.Frag) (F : Hp) : V → D → Prop
  | non : Rp K F .non .non
  | bl (b : Bool) : Rp K F (.bl b) (.bl b)
  | int (i : Int) : Rp K F (.int i) (.int i)
  | str (s : Str) : Rp K F (.str s) (.str s)
  | tup {a : Addr} {xs : List V} {ds : List D} : TupC F a xs → Rps K F xs ds → Rp K F (.ref a) (.tup ds)
  | arg {a : Addr} {xs : List V} {ds : List D} : SqT K F a xs → Rps K F xs ds → Rp K F (.ref a) (.arg ds)
  | lst {a : Addr} {xs : List V} {ds : List D} : F a = some (.lst xs) → Rps K F xs ds → Rp K F (.ref a) (.lst ds)
  | dct {a : Addr} {o : Obj} {kvs : List (Key × V)} {ds : List D} : F a = some (.frz o (.dK kvs)) → Rps K F (kvs.map (·.2)) ds → Rp K F (.ref a) (.dct (kvs.map (·.1)) ds)
  | scr {a : Addr} {ns : List Int} : SqL K F a (ns.map V.int) → Rp K F (.ref a) (.scr ns)
  | fn (nm : Str) : Rp K F (.ref (fnA K nm)) (.fn nm)
  | exn (a : Addr) : Rp K F (.ref a) (.exn a)
  | nd {a : Addr} {o ob : Obj} {xs : List (NestedKey × Addr × Value)} {vs : List V} {ks ds : List D} : F a = some (.frz o (AtO a ob)) → NdC a ob xs ks vs → Rps K F (xs.map fun x => .ref x.2.1) ks → Rps K F vs ds → Rp K F (.ref a) (.nd ks ds)
inductive Rps (K : PySem.W.Frag) (F : Hp) : List V → List D → Prop
  | nil : Rps K F [] []
  | cons {v : V} {vs : List V} {d : D} {ds : List D} : Rp K F v d → Rps K F vs ds → Rps K F (v :: vs) (d :: ds)
end

def FLe (F F' : Hp) : Prop := ∀ a o, F a = some o → F' a = some o
theorem FLe.refl (F : Hp) : FLe F F := fun _ _ h => h
theorem FLe.trans {F G H : Hp} (a : FLe F G) (b : FLe G H) : FLe F H := fun c o h => b c o (a c o h)
theorem FLe.noneOf {F G : Hp} (h : FLe F G) {a : Addr} (n : G a = none) : F a = none := by
  cases e : F a with
  | none => rfl
  | some o => rw [h a o e] at n; cases n
theorem FLe.rd {F G : Hp} (h : FLe F G) {a : Addr} {u : HO} (r : Rd F a u) : Rd G a u := by
  rcases r with r | ⟨o, r⟩
  · exact .inl (h _ _ r)
  · exact .inr ⟨o, h _ _ r⟩
theorem FLe.tupC {F G : Hp} (h : FLe F G) {a : Addr} {xs : List V} (r : TupC F a xs) : TupC G a xs := let ⟨o, d, e⟩ := r; ⟨o, d, h _ _ e⟩
theorem FLe.sqT {K : PySem.W.Frag} {F G : Hp} (h : FLe F G) {a : Addr} {xs : List V} (r : SqT K F a xs) : SqT K G a xs := by
  rcases r with r | r
  · exact .inl (h.rd r)
  · exact .inr r
theorem FLe.sqL {K : PySem.W.Frag} {F G : Hp} (h : FLe F G) {a : Addr} {xs : List V} (r : SqL K F a xs) : SqL K G a xs := by
  rcases r with r | r
  · exact .inl (h.rd r)
  · exact .inr r
mutual
theorem Rp.mono {K : PySem.W.Frag} {F G : Hp} (h : FLe F G) : ∀ {v : V} {d : D}, Rp K F v d → Rp K G v d
  | _, _, .non => .non
  | _, _, .bl b => .bl b
  | _, _, .int b => .int b
  | _, _, .str b => .str b
  | _, _, .tup t r => .tup (h.tupC t) (Rps.mono h r)
  | _, _, .arg t r => .arg (h.sqT t) (Rps.mono h r)
  | _, _, .lst t r => .lst (h _ _ t) (Rps.mono h r)
  | _, _, .dct t r => .dct (h _ _ t) (Rps.mono h r)
  | _, _, .scr t => .scr (h.sqL t)
  | _, _, .fn nm => .fn nm
  | _, _, .exn a => .exn a
  | _, _, .nd t c r1 r2 => .nd (h _ _ t) c (Rps.mono h r1) (Rps.mono h r2)
theorem Rps.mono {K : PySem.W.Frag} {F G : Hp} (h : FLe F G) : ∀ {vs : List V} {ds : List D}, Rps K F vs ds → Rps K G vs ds
  | _, _, .nil => .nil
  | _, _, .cons a b => .cons (Rp.mono h a) (Rps.mono h b)
end
section
variable {K : PySem.W.Frag} {F : Hp}
theorem Rps.length : ∀ {vs : List V} {ds : List D}, Rps K F vs ds → vs.length = ds.length
  | _, _, .nil => rfl
  | _, _, .cons _ b => by rw [List.length_cons, List.length_cons, Rps.length b]
theorem Rps.get : ∀ {vs : List V} {ds : List D} {i : Nat} {d : D}, Rps K F vs ds → ds[i]? = some d → ∃ v, vs[i]? = some v ∧ Rp K F v d
  | _, _, _, _, .nil, e => by simp at e
  | _, _, 0, _, .cons a _, e => by simp at e; subst e; exact ⟨_, rfl, a⟩
  | _, _, i + 1, _, .cons _ b, e => by
    obtain ⟨v, h1, h2⟩ := Rps.get (i := i) b (by simpa using e)
    exact ⟨v, by simpa using h1, h2⟩
theorem Rps.get' : ∀ {vs : List V} {ds : List D} {i : Nat} {v : V}, Rps K F vs ds → vs[i]? = some v → ∃ d, ds[i]? = some d ∧ Rp K F v d
  | _, _, _, _, .nil, e => by simp at e
  | _, _, 0, _, .cons a _, e => by simp at e; subst e; exact ⟨_, rfl, a⟩
  | _, _, i + 1, _, .cons _ b, e => by
    obtain ⟨v, h1, h2⟩ := Rps.get' (i := i) b (by simpa using e)
    exact ⟨v, by simpa using h1, h2⟩
theorem Rps.append : ∀ {vs ws : List V} {ds es : List D}, Rps K F vs ds → Rps K F ws es → Rps K F (vs ++ ws) (ds ++ es)
  | _, _, _, _, .nil, s => s
  | _, _, _, _, .cons a b, s => .cons a (b.append s)
theorem Rps.take : ∀ {vs : List V} {ds : List D} (n : Nat), Rps K F vs ds → Rps K F (vs.take n) (ds.take n)
  | _, _, 0, _ => .nil
  | _, _, _ + 1, .nil => .nil
  | _, _, n + 1, .cons a b => .cons a (b.take n)
theorem Rps.drop : ∀ {vs : List V} {ds : List D} (n : Nat), Rps K F vs ds → Rps K F (vs.drop n) (ds.drop n)
  | _, _, 0, r => r
  | _, _, _ + 1, .nil => .nil
  | _, _, n + 1, .cons _ b => b.drop n
theorem Rps.set : ∀ {vs : List V} {ds : List D} (n : Nat) {v : V} {d : D}, Rps K F vs ds → Rp K F v d → Rps K F (vs.set n v) (ds.set n d)
  | _, _, _, _, _, .nil, _ => .nil
  | _, _, 0, _, _, .cons _ b, r => .cons r b
  | _, _, n + 1, _, _, .cons a b, r => .cons a (b.set n r)
theorem Rps.eraseIdx : ∀ {vs : List V} {ds : List D} (n : Nat), Rps K F vs ds → Rps K F (vs.eraseIdx n) (ds.eraseIdx n)
  | _, _, _, .nil => by simp only [List.eraseIdx_nil]; exact .nil
  | _, _, 0, .cons _ b => b
  | _, _, n + 1, .cons a b => .cons a (b.eraseIdx n)
theorem Rps.reverse {vs : List V} {ds : List D} (r : Rps K F vs ds) : Rps K F vs.reverse ds.reverse := by
  induction vs generalizing ds with
  | nil => cases r; exact .nil
  | cons v vs ih =>
    cases r with
    | cons a b => rw [List.reverse_cons, List.reverse_cons]; exact (ih b).append (.cons a .nil)
theorem Rps.rep {vs : List V} {ds : List D} (r : Rps K F vs ds) : ∀ n, Rps K F (List.replicate n vs).flatten (List.replicate n ds).flatten
  | 0 => .nil
  | n + 1 => by rw [List.replicate_succ, List.replicate_succ, List.flatten_cons, List.flatten_cons]; exact r.append (r.rep n)
end

/-- a variable: nothing is known; frozen data; a list or dict that is its own; the same where it is the caller's -/
inductive Cell where
  | no | fro (d : D) | own (d : D) | io (d : D)
abbrev Env := List Cell
def Cell.held : Cell → Option D
  | .own d => some d
  | .io d => some d
  | _ => none
def Cell.data : Cell → Option D
  | .fro d => some d
  | .own d => some d
  | .io d => some d
  | .no => none

/-- the object o holds the data, its parts in F -/
def OwnObj (K : PySem.W.Frag) (F : Hp) (p : Addr) (o : HO) : D → Prop
  | .lst ds => ∃ xs, o = .lst xs ∧ Rps K F xs ds
  | .dct ks ds => ∃ kvs, o = .dK kvs ∧ kvs.map (·.1) = ks ∧ Rps K F (kvs.map (·.2)) ds
  | .nd ks ds => ∃ ob xs vs, o = AtO p ob ∧ NdC p ob xs ks vs ∧ Rps K F (xs.map fun x => .ref x.2.1) ks ∧ Rps K F vs ds
  | _ => False
theorem OwnObj.mono {K : PySem.W.Frag} {F G : Hp} (h : FLe F G) {p : Addr} {o : HO} {d : D} (r : OwnObj K F p o d) : OwnObj K G p o d := by
  cases d with
  | lst ds => obtain ⟨xs, e, r⟩ := r; exact ⟨xs, e, r.mono h⟩
  | dct ks ds => obtain ⟨kvs, e, e2, r⟩ := r; exact ⟨kvs, e, e2, r.mono h⟩
  | nd ks ds => obtain ⟨ob, xs, vs, e, c, r1, r2⟩ := r; exact ⟨ob, xs, vs, e, c, r1.mono h, r2.mono h⟩
  | _ => exact r
theorem OwnObj.rp {K : PySem.W.Frag} {F : Hp} {p : Addr} {od : Obj} {o : HO} {d : D} (r : OwnObj K F p o d) (e : F p = some (lk od o)) : Rp K F (.ref p) d := by
  cases d with
  | lst ds => obtain ⟨xs, rfl, r⟩ := r; exact .lst e r
  | dct ks ds => obtain ⟨kvs, rfl, rfl, r⟩ := r; exact .dct e r
  | nd ks ds => obtain ⟨ob, xs, vs, rfl, c, r1, r2⟩ := r; exact .nd e c r1 r2
  | _ => exact r.elim
theorem OwnObj.lkb {K : PySem.W.Frag} {F : Hp} {p : Addr} {o : HO} {d : D} (r : OwnObj K F p o d) : Lkb o := by
  cases d with
  | lst ds => obtain ⟨xs, rfl, r⟩ := r; exact .inl ⟨_, rfl⟩
  | dct ks ds => obtain ⟨kvs, rfl, rfl, r⟩ := r; exact .inr (.inl ⟨_, rfl⟩)
  | nd ks ds => obtain ⟨ob, xs, vs, rfl, _⟩ := r; exact .inr (.inr ⟨_, rfl⟩)
  | _ => exact r.elim
theorem lk_lst {od : Obj} {xs : List V} : lk od (.lst xs) = .lst xs := rfl
/-- the object at p is the variable's own -/
structure OwnAt (K : PySem.W.Frag) (F R H : Hp) (p : Addr) (d : D) : Prop where
  nF : F p = none
  nR : R p = none
  at_ : ∃ o, H p = some o ∧ OwnObj K F p o d
def CellOk (K : PySem.W.Frag) (F R H : Hp) (v : Option V) : Cell → Prop
  | .no => True
  | .fro d => ∃ x, v = some x ∧ Rp K F x d
  | .own d => ∃ p, v = some (.ref p) ∧ OwnAt K F R H p d
  | .io d => ∃ p, v = some (.ref p) ∧ OwnAt K F R H p d

/-- the slots whose objects are the caller's; the tables of code objects, the name that their entries bear -/
structure Io (T : List (Addr × Str)) where
  l : List (Nat × Addr) := []
/-- no table is among these -/
def NoTb (F : Hp) : Prop := ∀ a ps, F a ≠ some (.tbl ps)
theorem NoTb.upd {F : Hp} (h : NoTb F) {p : Addr} {o : HO} (n : ∀ ps, o ≠ .tbl ps) : NoTb (L2.upd F p o) := fun a ps z => by
  by_cases e : a = p
  · subst e; rw [upd_same] at z; exact n ps (Option.some.inj z)
  · rw [upd_ne e] at z; exact h a ps z
theorem OwnObj.nt {K : PySem.W.Frag} {F : Hp} {p : Addr} {o : HO} {d : D} (r : OwnObj K F p o d) (od : Obj) : (∀ ps, o ≠ .tbl ps) ∧ ∀ ps, lk od o ≠ .tbl ps := by
  cases d with
  | lst ds => obtain ⟨xs, rfl, r⟩ := r; exact ⟨(fun ps z => nomatch z), fun ps z => nomatch z⟩
  | dct ks ds => obtain ⟨kvs, rfl, _, r⟩ := r; exact ⟨(fun ps z => nomatch z), fun ps z => nomatch z⟩
  | nd ks ds => obtain ⟨ob, xs, vs, rfl, _⟩ := r; exact ⟨(fun ps z => nomatch z), fun ps z => nomatch z⟩
  | _ => exact r.elim
theorem heap_size : ∀ n : Nat, ∃ h : Heap, h.objs.size = n
  | 0 => ⟨{}, rfl⟩
  | n + 1 => let ⟨h, e⟩ := heap_size n; ⟨h.push { cls := .none, data := .plain }, by rw [Heap.size_push, e]⟩
theorem atO_ne {p : Addr} {ob : Obj} {q : Str} (nf : ∀ vs, ob.data ≠ .fields vs) : AtO p ob ≠ LamX.CodeO p q := fun z => by
  unfold AtO LamX.CodeO at z
  obtain ⟨h, e⟩ := heap_size p
  have g : (h.push { cls := .none, data := .fields #[.none, .str q 0] }).get? p = some { cls := .none, data := .fields #[.none, .str q 0] } := by
    rw [← e]; exact Heap.get?_push_size _ rfl
  have k := congrFun (HO.ext.inj z) (h.push { cls := .none, data := .fields #[.none, .str q 0] })
  have y := (iff_of_eq k).mpr ⟨_, _, 0, g, rfl, rfl⟩
  rw [g] at y
  cases y
  exact nf _ rfl
/-- neither a table nor a code object that tables tell -/
def NoX (R : Hp) : Prop := NoTb R ∧ ∀ a q, R a ≠ some (LamX.CodeO a q)
theorem NoX.upd {R : Hp} (h : NoX R) {p : Addr} {o : HO} (n : ∀ ps, o ≠ .tbl ps) (n2 : ∀ q, o ≠ LamX.CodeO p q) : NoX (L2.upd R p o) := ⟨h.1.upd n, fun a φ z => by
  by_cases e : a = p
  · subst e; rw [upd_same] at z; exact n2 φ (Option.some.inj z)
  · rw [upd_ne e] at z; exact h.2 a φ z⟩
theorem OwnObj.nx {K : PySem.W.Frag} {F : Hp} {p : Addr} {o : HO} {d : D} (r : OwnObj K F p o d) (q : Str) : o ≠ LamX.CodeO p q := by
  cases d with
  | lst ds => obtain ⟨xs, rfl, r⟩ := r; unfold LamX.CodeO; exact fun z => nomatch z
  | dct ks ds => obtain ⟨kvs, rfl, _, r⟩ := r; unfold LamX.CodeO; exact fun z => nomatch z
  | nd ks ds => obtain ⟨ob, xs, vs, rfl, c, _⟩ := r; exact atO_ne fun vs z => by obtain ⟨es, ep, e, _⟩ := c.en; rw [e] at z; cases z
  | _ => exact r.elim
/-- a table: it is nobody's; the code objects that it tells are known for good -/
def TabOk (F R H : Hp) (t : Addr × Str) : Prop := F t.1 = none ∧ R t.1 = none ∧ NoX R ∧ ∃ ps : Array Value, H t.1 = some (.tbl ps) ∧ TriplesOk ps.toList ∧ ∀ (pos : Pos) (cv : Value), codeAmong pos ps.toList = some cv → ∃ c, cv = .ref c ∧ F c = some (LamX.CodeO c t.2)
theorem TabOk.mv {F R H F' R' H' : Hp} {t : Addr × Str} (h : TabOk F R H t) (hF : F' t.1 = none) (hR : R' t.1 = none) (hH : ∀ ps, H t.1 = some (.tbl ps) → H' t.1 = some (.tbl ps)) (le : FLe F F') (nR : NoX R') : TabOk F' R' H' t := by
  obtain ⟨_, _, _, ps, e, tr, k⟩ := h
  exact ⟨hF, hR, nR, ps, hH ps e, tr, fun pos cv z => let ⟨c, e1, e2⟩ := k pos cv z; ⟨c, e1, le _ _ e2⟩⟩
theorem own_ne {K : PySem.W.Frag} {F R H : Hp} {p P : Addr} {d : D} {ps : Array Value} (w : OwnAt K F R H p d) (e : H P = some (.tbl ps)) : P ≠ p := fun z => by
  subst z
  obtain ⟨o, e1, h⟩ := w.at_
  rw [e] at e1
  cases e1
  cases d with
  | lst ds => obtain ⟨_, z, _⟩ := h; cases z
  | dct ks ds => obtain ⟨_, z, _, _⟩ := h; cases z
  | nd ks ds => obtain ⟨_, _, _, z, _⟩ := h; cases z
  | _ => exact h
theorem TabOk.tbl {F R H : Hp} {t : Addr × Str} (h : TabOk F R H t) : ∃ ps, H t.1 = some (.tbl ps) := let ⟨_, _, _, ps, e, _⟩ := h; ⟨ps, e⟩
theorem TabOk.nR {F R H : Hp} {t : Addr × Str} (h : TabOk F R H t) : NoX R := h.2.2.1
/-- ρ tells of the slots σ and the heap H. F: what is frozen; R: what others keep; io: the slots whose objects are the caller's -/
structure Rel {T : List (Addr × Str)} (K : PySem.W.Frag) (io : Io T) (R : Hp) (ρ : Env) (F : Hp) (σ : L2.St) (H : Hp) : Prop where
  fH : FLe F H
  rH : FLe R H
  dj : ∀ a o, F a = some o → R a = none
  len : ρ.length = σ.length
  cell : ∀ (i : Nat) (c : Cell) (v : Option V), ρ[i]? = some c → σ[i]? = some v → CellOk K F R H v c
  inj : ∀ (i j : Nat) (ci cj : Cell) (di dj : D) (p : Addr), ρ[i]? = some ci → ρ[j]? = some cj → ci.held = some di → cj.held = some dj → σ[i]? = some (some (.ref p)) → σ[j]? = some (some (.ref p)) → i = j
  ios : ∀ ip ∈ io.l, (∃ d, ρ[ip.1]? = some (.io d)) ∧ σ[ip.1]? = some (some (.ref ip.2))
  ioc : ∀ (i : Nat) (d : D), ρ[i]? = some (.io d) → ∃ p, (i, p) ∈ io.l
  tab : ∀ t ∈ T, TabOk F R H t
  nt : NoTb F

section
variable {T : List (Addr × Str)} {K : PySem.W.Frag} {io : Io T} {R : Hp} {ρ : Env} {F F' : Hp} {σ : L2.St} {H H' : Hp}
theorem Rel.slot (r : Rel K io R ρ F σ H) {i : Nat} {c : Cell} (e : ρ[i]? = some c) : ∃ v, σ[i]? = some v ∧ CellOk K F R H v c := by
  have h := (List.getElem?_eq_some_iff.mp e).1
  have h2 : i < σ.length := by rw [← r.len]; exact h
  exact ⟨σ[i], by simp [h2], r.cell i c _ e (by simp [h2])⟩
theorem Rel.heldAt (r : Rel K io R ρ F σ H) {i : Nat} {c : Cell} {d : D} (e : ρ[i]? = some c) (h : c.held = some d) : ∃ p, σ[i]? = some (some (.ref p)) ∧ OwnAt K F R H p d := by
  obtain ⟨v, e1, q⟩ := r.slot e
  cases c with
  | no => cases h
  | fro _ => cases h
  | own d' => cases h; obtain ⟨p, rfl, q⟩ := q; exact ⟨p, e1, q⟩
  | io d' => cases h; obtain ⟨p, rfl, q⟩ := q; exact ⟨p, e1, q⟩
/-- the heap has more, what is frozen has more: none of it was there -/
theorem Rel.grow (r : Rel K io R ρ F σ H) (hF : FLe F F') (hH : FLe H H') (hFH : FLe F' H') (new : ∀ a o, F' a = some o → F a = some o ∨ H a = none) (nt : NoTb F') : Rel K io R ρ F' σ H' := by
  have own : ∀ {p d}, OwnAt K F R H p d → OwnAt K F' R H' p d := fun {p d} q => by
    obtain ⟨o, e, q3⟩ := q.at_
    refine ⟨?_, q.nR, o, hH _ _ e, q3.mono hF⟩
    cases e' : F' p with
    | none => rfl
    | some o' =>
      rcases new p o' e' with z | z
      · rw [q.nF] at z; cases z
      · rw [e] at z; cases z
  refine ⟨hFH, r.rH.trans hH, fun a o e => ?_, r.len, fun i c v e1 e2 => ?_, r.inj, r.ios, r.ioc, (fun t ht => ?_), nt⟩
  · rcases new a o e with z | z
    · exact r.dj a o z
    · exact r.rH.noneOf z
  · have q := r.cell i c v e1 e2
    cases c with
    | no => trivial
    | fro d => obtain ⟨x, e, q⟩ := q; exact ⟨x, e, q.mono hF⟩
    | own d => obtain ⟨p, e, q⟩ := q; exact ⟨p, e, own q⟩
    | io d => obtain ⟨p, e, q⟩ := q; exact ⟨p, e, own q⟩
  · have q := r.tab t ht
    obtain ⟨ps, ep⟩ := q.tbl
    refine q.mv ?_ q.2.1 (fun ps e => hH _ _ e) hF q.nR
    cases e' : F' t.1 with
    | none => rfl
    | some o' =>
      rcases new _ _ e' with z | z
      · rw [q.1] at z; cases z
      · rw [ep] at z; cases z
/-- a new frozen object -/
theorem Rel.new (r : Rel K io R ρ F σ H) {p : Addr} (n : H p = none) (o : HO) (no : ∀ ps, o ≠ .tbl ps := by intro ps z; cases z) : Rel K io R ρ (upd F p o) σ (upd H p o) := by
  refine r.grow (fun a u e => ?_) (fun a u e => ?_) (fun a u e => ?_) (fun a u e => ?_) (r.nt.upd no)
  · rw [upd_ne (ne_of_none (r.fH a u e) n)]; exact e
  · rw [upd_ne (ne_of_none e n)]; exact e
  · by_cases h : a = p
    · subst h; rw [upd_same] at e ⊢; exact e
    · rw [upd_ne h] at e ⊢; exact r.fH a u e
  · by_cases h : a = p
    · subst h; exact .inr n
    · rw [upd_ne h] at e; exact .inl e
theorem FLe.upd {F : Hp} {p : Addr} (o : HO) (n : F p = none) : FLe F (upd F p o) := fun a u e => by
  rw [upd_ne (ne_of_none e n)]; exact e
/-- a new object that nobody holds -/
theorem Rel.newH (r : Rel K io R ρ F σ H) {p : Addr} (n : H p = none) (o : HO) : Rel K io R ρ F σ (L2.upd H p o) :=
  r.grow (FLe.refl F) (FLe.upd o n) (r.fH.trans (FLe.upd o n)) (fun a u e => .inl e) r.nt
/-- a variable takes frozen data -/
theorem Rel.setFro (r : Rel K io R ρ F σ H) {i : Nat} {v : V} {d : D} (h : Rp K F v d) (hi : ∀ e, ρ[i]? ≠ some (Cell.io e)) : Rel K io R (ρ.set i (.fro d)) F (σ.set i (some v)) H := by
  refine ⟨r.fH, r.rH, r.dj, by rw [List.length_set, List.length_set]; exact r.len, fun j c w e1 e2 => ?_, fun j k cj ck dj dk p h1 h2 h3 h4 h5 h6 => ?_, fun ip hip => ?_, (fun j d' e => ?_), r.tab, r.nt⟩
  · rw [List.getElem?_set] at e1 e2
    by_cases hj : i = j
    · rw [if_pos hj] at e1 e2
      split at e1
      · cases e1
        split at e2
        · cases e2; exact ⟨v, rfl, h⟩
        · cases e2
      · cases e1
    · rw [if_neg hj] at e1 e2; exact r.cell j c w e1 e2
  · have ne : ∀ {j : Nat} {cj : Cell} {dj : D}, (ρ.set i (.fro d))[j]? = some cj → cj.held = some dj → i ≠ j ∧ ρ[j]? = some cj := fun {j cj dj} e1 e2 => by
      rw [List.getElem?_set] at e1
      by_cases hj : i = j
      · rw [if_pos hj] at e1
        split at e1
        · cases e1; cases e2
        · cases e1
      · rw [if_neg hj] at e1; exact ⟨hj, e1⟩
    obtain ⟨n1, g1⟩ := ne h1 h3
    obtain ⟨n2, g2⟩ := ne h2 h4
    rw [List.getElem?_set_ne n1] at h5
    rw [List.getElem?_set_ne n2] at h6
    exact r.inj j k cj ck dj dk p g1 g2 h3 h4 h5 h6
  · obtain ⟨⟨d', e1⟩, e2⟩ := r.ios ip hip
    have hn : i ≠ ip.1 := fun e => by subst e; exact hi d' e1
    exact ⟨⟨d', by rw [List.getElem?_set_ne hn]; exact e1⟩, by rw [List.getElem?_set_ne hn]; exact e2⟩
  · rw [List.getElem?_set] at e
    split at e
    · split at e <;> cases e
    · exact r.ioc j d' e
/-- nothing more is known of a variable -/
theorem Rel.forget (r : Rel K io R ρ F σ H) {i : Nat} (o : Option V) (hi : ∀ e, ρ[i]? ≠ some (Cell.io e)) : Rel K io R (ρ.set i .no) F (σ.set i o) H := by
  refine ⟨r.fH, r.rH, r.dj, by rw [List.length_set, List.length_set]; exact r.len, fun j c w e1 e2 => ?_, fun j k cj ck dj dk p h1 h2 h3 h4 h5 h6 => ?_, fun ip hip => ?_, (fun j d' e => ?_), r.tab, r.nt⟩
  · rw [List.getElem?_set] at e1 e2
    by_cases hj : i = j
    · rw [if_pos hj] at e1
      split at e1
      · cases e1; trivial
      · cases e1
    · rw [if_neg hj] at e1 e2; exact r.cell j c w e1 e2
  · have ne : ∀ {j : Nat} {cj : Cell} {dj : D}, (ρ.set i .no)[j]? = some cj → cj.held = some dj → i ≠ j ∧ ρ[j]? = some cj := fun {j cj dj} e1 e2 => by
      rw [List.getElem?_set] at e1
      by_cases hj : i = j
      · rw [if_pos hj] at e1
        split at e1
        · cases e1; cases e2
        · cases e1
      · rw [if_neg hj] at e1; exact ⟨hj, e1⟩
    obtain ⟨n1, g1⟩ := ne h1 h3
    obtain ⟨n2, g2⟩ := ne h2 h4
    rw [List.getElem?_set_ne n1] at h5
    rw [List.getElem?_set_ne n2] at h6
    exact r.inj j k cj ck dj dk p g1 g2 h3 h4 h5 h6
  · obtain ⟨⟨d', e1⟩, e2⟩ := r.ios ip hip
    have hn : i ≠ ip.1 := fun e => by subst e; exact hi d' e1
    exact ⟨⟨d', by rw [List.getElem?_set_ne hn]; exact e1⟩, by rw [List.getElem?_set_ne hn]; exact e2⟩
  · rw [List.getElem?_set] at e
    split at e
    · split at e <;> cases e
    · exact r.ioc j d' e
/-- no variable holds p -/
def Loose (ρ : Env) (σ : L2.St) (p : Addr) : Prop := ∀ (i : Nat) (c : Cell) (d : D), ρ[i]? = some c → c.held = some d → σ[i]? ≠ some (some (.ref p))
theorem Rel.loose (r : Rel K io R ρ F σ H) {p : Addr} (n : H p = none) : Loose ρ σ p := fun i c d e1 e2 e3 => by
  obtain ⟨q, e4, w⟩ := r.heldAt e1 e2
  rw [e3] at e4; cases e4
  obtain ⟨o, e, _⟩ := w.at_
  rw [n] at e; cases e
/-- a variable takes an object that nobody holds -/
theorem Rel.setOwn (r : Rel K io R ρ F σ H) {i : Nat} {p : Addr} {d : D} (h : OwnAt K F R H p d) (lo : Loose ρ σ p) (hi : ∀ e, ρ[i]? ≠ some (Cell.io e)) : Rel K io R (ρ.set i (.own d)) F (σ.set i (some (.ref p))) H := by
  refine ⟨r.fH, r.rH, r.dj, by rw [List.length_set, List.length_set]; exact r.len, fun j c w e1 e2 => ?_, fun j k cj ck dj dk q h1 h2 h3 h4 h5 h6 => ?_, fun ip hip => ?_, (fun j d' e => ?_), r.tab, r.nt⟩
  · rw [List.getElem?_set] at e1 e2
    by_cases hj : i = j
    · rw [if_pos hj] at e1 e2
      split at e1
      · cases e1
        split at e2
        · cases e2; exact ⟨p, rfl, h⟩
        · cases e2
      · cases e1
    · rw [if_neg hj] at e1 e2; exact r.cell j c w e1 e2
  · rw [List.getElem?_set] at h1 h2 h5 h6
    by_cases hj : i = j
    · by_cases hk : i = k
      · exact hj.symm.trans hk
      · rw [if_neg hk] at h2 h6
        rw [if_pos hj] at h5
        split at h5
        · have z : V.ref p = V.ref q := Option.some.inj (Option.some.inj h5)
          cases z
          exact absurd h6 (lo k ck dk h2 h4)
        · cases h5
    · rw [if_neg hj] at h1 h5
      by_cases hk : i = k
      · rw [if_pos hk] at h6
        split at h6
        · have z : V.ref p = V.ref q := Option.some.inj (Option.some.inj h6)
          cases z
          exact absurd h5 (lo j cj dj h1 h3)
        · cases h6
      · rw [if_neg hk] at h2 h6
        exact r.inj j k cj ck dj dk q h1 h2 h3 h4 h5 h6
  · obtain ⟨⟨d', e1⟩, e2⟩ := r.ios ip hip
    have hn : i ≠ ip.1 := fun e => by subst e; exact hi d' e1
    exact ⟨⟨d', by rw [List.getElem?_set_ne hn]; exact e1⟩, by rw [List.getElem?_set_ne hn]; exact e2⟩
  · rw [List.getElem?_set] at e
    split at e
    · split at e <;> cases e
    · exact r.ioc j d' e
/-- the object of a variable is changed -/
def Cell.put (c : Cell) (d : D) : Cell := match c with
  | .own _ => .own d
  | .io _ => .io d
  | c => c
theorem Rel.write (r : Rel K io R ρ F σ H) {i : Nat} {c : Cell} {d0 d : D} {p : Addr} {o : HO} (hc : ρ[i]? = some c) (hh : c.held = some d0) (hp : σ[i]? = some (some (.ref p))) (ho : OwnObj K F p o d) :
    Rel K io R (ρ.set i (c.put d)) F σ (L2.upd H p o) := by
  obtain ⟨p', e1, w⟩ := r.heldAt hc hh
  rw [hp] at e1; cases e1
  have hil : i < ρ.length := (List.getElem?_eq_some_iff.mp hc).1
  have nF : ∀ a u, F a = some u → a ≠ p := fun a u e z => by subst z; rw [w.nF] at e; cases e
  have nR : ∀ a u, R a = some u → a ≠ p := fun a u e z => by subst z; rw [w.nR] at e; cases e
  have hp2 : (c.put d).held = some d := by cases c <;> first | rfl | cases hh
  refine ⟨fun a u e => by rw [upd_ne (nF a u e)]; exact r.fH a u e, fun a u e => by rw [upd_ne (nR a u e)]; exact r.rH a u e, r.dj, by rw [List.length_set]; exact r.len, fun j cj v e1 e2 => ?_, fun j k cj ck dj dk q h1 h2 h3 h4 h5 h6 => ?_, fun ip hip => ?_, fun j d' e => ?_, fun t ht => let q := r.tab t ht; q.mv q.1 q.2.1 (fun ps e => by rw [upd_ne (own_ne w e)]; exact e) (FLe.refl F) q.nR, r.nt⟩
  · by_cases hj : i = j
    · subst hj
      rw [List.getElem?_set_self hil] at e1
      cases e1
      rw [hp] at e2; cases e2
      have own : OwnAt K F R (L2.upd H p o) p d := ⟨w.nF, w.nR, o, upd_same, ho⟩
      cases c with
      | no => cases hh
      | fro _ => cases hh
      | own _ => exact ⟨p, rfl, own⟩
      | io _ => exact ⟨p, rfl, own⟩
    · rw [List.getElem?_set_ne hj] at e1
      have q := r.cell j cj v e1 e2
      have keep : ∀ {dj p'}, cj.held = some dj → v = some (.ref p') → OwnAt K F R H p' dj → OwnAt K F R (L2.upd H p o) p' dj := fun {dj p'} h3 h4 q => by
        obtain ⟨o', e, q3⟩ := q.at_
        refine ⟨q.nF, q.nR, o', ?_, q3⟩
        rw [upd_ne]
        · exact e
        · intro z
          subst z
          rw [h4] at e2
          exact hj (r.inj i j c cj d0 dj p' hc e1 hh h3 hp e2)
      cases cj with
      | no => trivial
      | fro _ => exact q
      | own dj => obtain ⟨p', e, q⟩ := q; exact ⟨p', e, keep rfl e q⟩
      | io dj => obtain ⟨p', e, q⟩ := q; exact ⟨p', e, keep rfl e q⟩
  · have old : ∀ {j : Nat} {cj : Cell} {dj : D}, (ρ.set i (c.put d))[j]? = some cj → cj.held = some dj → ∃ cj' dj', ρ[j]? = some cj' ∧ cj'.held = some dj' := fun {j cj dj} e1 e2 => by
      by_cases hj : i = j
      · subst hj; exact ⟨c, d0, hc, hh⟩
      · rw [List.getElem?_set_ne hj] at e1; exact ⟨cj, dj, e1, e2⟩
    obtain ⟨_, _, g1, g2⟩ := old h1 h3
    obtain ⟨_, _, g3, g4⟩ := old h2 h4
    exact r.inj j k _ _ _ _ q g1 g3 g2 g4 h5 h6
  · obtain ⟨⟨d', e1⟩, e2⟩ := r.ios ip hip
    refine ⟨?_, e2⟩
    by_cases hj : i = ip.1
    · subst hj
      rw [hc] at e1; cases e1
      exact ⟨d, by rw [List.getElem?_set_self hil]; rfl⟩
    · exact ⟨d', by rw [List.getElem?_set_ne hj]; exact e1⟩
  · by_cases hj : i = j
    · subst hj
      rw [List.getElem?_set_self hil] at e
      cases c with
      | no => cases hh
      | fro _ => cases hh
      | own _ => cases e
      | io d'' => exact r.ioc i d'' hc
    · rw [List.getElem?_set_ne hj] at e; exact r.ioc j d' e
/-- a variable's own object is frozen -/
theorem Rel.freeze (r : Rel K io R ρ F σ H) {i : Nat} {d : D} {p : Addr} {o : HO} (hc : ρ[i]? = some (.own d)) (hp : σ[i]? = some (some (.ref p))) (ho : H p = some o) (hr : OwnObj K F p o d) (od : Obj) :
    FLe F (L2.upd F p (lk od o)) ∧ Rel K io R (ρ.set i (.fro d)) (L2.upd F p (lk od o)) σ (L2.upd H p (lk od o)) ∧ Rp K (L2.upd F p (lk od o)) (.ref p) d := by
  obtain ⟨p', e1, w⟩ := r.heldAt hc rfl
  rw [hp] at e1; cases e1
  have hil : i < ρ.length := (List.getElem?_eq_some_iff.mp hc).1
  have le : FLe F (L2.upd F p (lk od o)) := FLe.upd _ w.nF
  have rp : Rp K (L2.upd F p (lk od o)) (.ref p) d := (hr.mono le).rp upd_same
  have nR : ∀ a u, R a = some u → a ≠ p := fun a u e z => by subst z; rw [w.nR] at e; cases e
  refine ⟨le, ⟨fun a u e => ?_, fun a u e => by rw [upd_ne (nR a u e)]; exact r.rH a u e, fun a u e => ?_, by rw [List.length_set]; exact r.len, fun j cj v e1 e2 => ?_, fun j k cj ck dj dk q h1 h2 h3 h4 h5 h6 => ?_, fun ip hip => ?_, fun j d' e => ?_, fun t ht => let q := r.tab t ht; let ⟨ps, ep⟩ := q.tbl; q.mv (by rw [upd_ne (own_ne w ep)]; exact q.1) q.2.1 (fun ps e => by rw [upd_ne (own_ne w e)]; exact e) le q.nR, r.nt.upd (hr.nt od).2⟩, rp⟩
  · by_cases h : a = p
    · subst h; rw [upd_same] at e; cases e; exact upd_same
    · rw [upd_ne h] at e; rw [upd_ne h]; exact r.fH a u e
  · by_cases h : a = p
    · subst h; exact w.nR
    · rw [upd_ne h] at e; exact r.dj a u e
  · by_cases hj : i = j
    · subst hj
      rw [List.getElem?_set_self hil] at e1
      cases e1
      rw [hp] at e2; cases e2
      exact ⟨_, rfl, rp⟩
    · rw [List.getElem?_set_ne hj] at e1
      have q := r.cell j cj v e1 e2
      have keep : ∀ {dj p'}, cj.held = some dj → v = some (.ref p') → OwnAt K F R H p' dj → OwnAt K (L2.upd F p (lk od o)) R (L2.upd H p (lk od o)) p' dj := fun {dj p'} h3 h4 q => by
        obtain ⟨o', e, q3⟩ := q.at_
        have ne : p' ≠ p := by
          intro z
          subst z
          rw [h4] at e2
          exact hj (r.inj i j _ cj d dj p' hc e1 rfl h3 hp e2)
        exact ⟨by rw [upd_ne ne]; exact q.nF, q.nR, o', by rw [upd_ne ne]; exact e, q3.mono le⟩
      cases cj with
      | no => trivial
      | fro _ => obtain ⟨x, e, q⟩ := q; exact ⟨x, e, q.mono le⟩
      | own dj => obtain ⟨p', e, q⟩ := q; exact ⟨p', e, keep rfl e q⟩
      | io dj => obtain ⟨p', e, q⟩ := q; exact ⟨p', e, keep rfl e q⟩
  · have old : ∀ {j : Nat} {cj : Cell} {dj : D}, (ρ.set i (.fro d))[j]? = some cj → cj.held = some dj → ρ[j]? = some cj := fun {j cj dj} e1 e2 => by
      by_cases hj : i = j
      · subst hj
        rw [List.getElem?_set_self hil] at e1
        cases e1; cases e2
      · rw [List.getElem?_set_ne hj] at e1; exact e1
    exact r.inj j k cj ck dj dk q (old h1 h3) (old h2 h4) h3 h4 h5 h6
  · obtain ⟨⟨d', e1⟩, e2⟩ := r.ios ip hip
    have hn : i ≠ ip.1 := fun e => by subst e; rw [hc] at e1; cases e1
    exact ⟨⟨d', by rw [List.getElem?_set_ne hn]; exact e1⟩, e2⟩
  · by_cases hj : i = j
    · subst hj
      rw [List.getElem?_set_self hil] at e
      cases e
    · rw [List.getElem?_set_ne hj] at e; exact r.ioc j d' e
end
end Dt

set_option Elab.async false
set_option linter.all false
set_option maxRecDepth 100000
set_option maxHeartbeats 2000000
/-! What code computes on plain data (the semantic side), and what it means that a piece of syntax computes it (the judgements). -/
namespace Dt
open PySem PySem.Spec PyProof.Rows L2

/-- an exception: the name of its class, what it bears -/
structure Exn where
  cls : String
  arg : D := .non
/-- a value with the environment behind it; an exception; anything that is not told -/
inductive R (α : Type) where
  | ok (a : α) (ρ : Env) | exc (x : Exn) (ρ : Env) | stuck
def R.bind {α β : Type} (r : R α) (f : α → Env → R β) : R β := match r with
  | .ok a ρ => f a ρ
  | .exc x ρ => .exc x ρ
  | .stuck => .stuck
@[simp] theorem R.bind_ok {α β : Type} {a : α} {ρ : Env} {f : α → Env → R β} : (R.ok a ρ).bind f = f a ρ := rfl
@[simp] theorem R.bind_exc {α β : Type} {x : Exn} {ρ : Env} {f : α → Env → R β} : (R.exc x ρ).bind f = .exc x ρ := rfl
@[simp] theorem R.bind_stuck {α β : Type} {f : α → Env → R β} : (R.stuck : R α).bind f = .stuck := rfl
/-- a def's end: its value and what it left in the lists that it was lent -/
inductive FR where
  | ok (d : D) (outs : List D) | exc (x : Exn) | stuck

abbrev SE := Env → R D
abbrev ST := Env → R Bool
abbrev SA := Env → R (List D)
inductive Fl where
  | nx | rt (d : D) | bk | ct
abbrev SS := Env → R Fl
abbrev SG := D → Env → R Unit
/-- an operand that is only looked at: a value, or a variable -/
inductive Opd where
  | val (d : D) | loc (i : Nat)
def Opd.get (ρ : Env) : Opd → Option D
  | .val d => some d
  | .loc i => (ρ[i]?).bind Cell.data
abbrev SO := Env → R Opd
abbrev SB := Env → R (List Opd)

/-- where the exception classes stand; the tables of code objects that may be written, the name that their entries bear -/
structure Exx where
  at_ : String → Addr
  tabs : List (Addr × Str)
/-- the context of a law: the written part, the above -/
structure Gx where
  K : PySem.W.Frag
  ex : Exx
def XR (G : Gx) (F : Hp) (x : Exn) (cls : Value) (dd : Option Addr) (H : Hp) : Prop :=
  cls = .ref (G.ex.at_ x.cls) ∧ match x.arg with
    | .non => dd = none
    | d => ∃ p v, dd = some p ∧ F p = none ∧ H p = some (.xd [("most", v)]) ∧ Rp G.K F v d

def XPost {T : List (Addr × Str)} (G : Gx) (W : WX) (io : Io T) (Rv : Hp) (F : Hp) (ρ : Env) (x : Exn) : Prop :=
  ∀ cls dd σ' H' F', FLe F F' → Rel G.K io Rv ρ F' σ' H' → XR G F' x cls dd H' → W cls dd σ' H'
def EPost {T : List (Addr × Str)} (G : Gx) (io : Io T) (Rv : Hp) (F : Hp) (σ : L2.St) (ρ : Env) (d : D) (Q : VK) : Prop :=
  ∀ v H' F', FLe F F' → Rel G.K io Rv ρ F' σ H' → Rp G.K F' v d → Q v H'
def OpdOk (K : PySem.W.Frag) (F : Hp) (σ : L2.St) (v : V) : Opd → Prop
  | .val d => Rp K F v d
  | .loc i => σ[i]? = some (some v)
inductive OpdsOk (K : PySem.W.Frag) (F : Hp) (σ : L2.St) : List V → List Opd → Prop
  | nil : OpdsOk K F σ [] []
  | cons {v : V} {vs : List V} {o : Opd} {os : List Opd} : OpdOk K F σ v o → OpdsOk K F σ vs os → OpdsOk K F σ (v :: vs) (o :: os)
theorem OpdOk.mono {K : PySem.W.Frag} {F G : Hp} (h : FLe F G) {σ : L2.St} {v : V} {o : Opd} (r : OpdOk K F σ v o) : OpdOk K G σ v o := by
  cases o with
  | val d => exact Rp.mono h r
  | loc i => exact r

def tE (G : Gx) (W : WX) (s : SE) : TE := fun σ H Q => ∃ ρ F Rv, ∃ io : Io G.ex.tabs, Rel G.K io Rv ρ F σ H ∧ match s ρ with
  | .ok d ρ' => EPost G io Rv F σ ρ' d Q
  | .exc x ρ' => XPost G W io Rv F ρ' x
  | .stuck => False
def tT (G : Gx) (W : WX) (s : ST) : TT := fun σ H Q => ∃ ρ F Rv, ∃ io : Io G.ex.tabs, Rel G.K io Rv ρ F σ H ∧ match s ρ with
  | .ok b ρ' => ∀ H' F', FLe F F' → Rel G.K io Rv ρ' F' σ H' → Q b H'
  | .exc x ρ' => XPost G W io Rv F ρ' x
  | .stuck => False
def tA (G : Gx) (W : WX) (s : SA) : TA := fun σ H Q => ∃ ρ F Rv, ∃ io : Io G.ex.tabs, Rel G.K io Rv ρ F σ H ∧ match s ρ with
  | .ok ds ρ' => ∀ vs H' F', FLe F F' → Rel G.K io Rv ρ' F' σ H' → Rps G.K F' vs ds → Q vs H'
  | .exc x ρ' => XPost G W io Rv F ρ' x
  | .stuck => False
def tO (G : Gx) (W : WX) (s : SO) : TE := fun σ H Q => ∃ ρ F Rv, ∃ io : Io G.ex.tabs, Rel G.K io Rv ρ F σ H ∧ match s ρ with
  | .ok o ρ' => ∀ v H' F', FLe F F' → Rel G.K io Rv ρ' F' σ H' → OpdOk G.K F' σ v o → Q v H'
  | .exc x ρ' => XPost G W io Rv F ρ' x
  | .stuck => False
def tB (G : Gx) (W : WX) (s : SB) : TA := fun σ H Q => ∃ ρ F Rv, ∃ io : Io G.ex.tabs, Rel G.K io Rv ρ F σ H ∧ match s ρ with
  | .ok os ρ' => ∀ vs H' F', FLe F F' → Rel G.K io Rv ρ' F' σ H' → OpdsOk G.K F' σ vs os → Q vs H'
  | .exc x ρ' => XPost G W io Rv F ρ' x
  | .stuck => False
/-- a new object that nobody else holds -/
def tF (G : Gx) (W : WX) (s : SE) : TE := fun σ H Q => ∃ ρ F Rv, ∃ io : Io G.ex.tabs, Rel G.K io Rv ρ F σ H ∧ match s ρ with
  | .ok d ρ' => ∀ p H' F', FLe F F' → Rel G.K io Rv ρ' F' σ H' → OwnAt G.K F' Rv H' p d → Loose ρ' σ p → Q (.ref p) H'
  | .exc x ρ' => XPost G W io Rv F ρ' x
  | .stuck => False
def SPost {T : List (Addr × Str)} (G : Gx) (W : WX) (io : Io T) (Rv F : Hp) (r : R Fl) (D : Ends) : Prop := match r with
  | .ok .nx ρ' => ∀ σ' H' F', FLe F F' → Rel G.K io Rv ρ' F' σ' H' → D.nx σ' H'
  | .ok .bk ρ' => ∀ σ' H' F', FLe F F' → Rel G.K io Rv ρ' F' σ' H' → D.bk σ' H'
  | .ok .ct ρ' => ∀ σ' H' F', FLe F F' → Rel G.K io Rv ρ' F' σ' H' → D.ct σ' H'
  | .ok (.rt d) ρ' => ∀ v σ' H' F', FLe F F' → Rel G.K io Rv ρ' F' σ' H' → Rp G.K F' v d → D.rt v H'
  | .exc x ρ' => XPost G W io Rv F ρ' x
  | .stuck => False
def tS (G : Gx) (W : WX) (s : SS) : TS := fun D σ H => ∃ ρ F Rv, ∃ io : Io G.ex.tabs, Rel G.K io Rv ρ F σ H ∧ SPost G W io Rv F (s ρ) D
/-- only the slots js differ -/
def Keeps (js : List Nat) (σ σ' : L2.St) : Prop := σ'.length = σ.length ∧ ∀ j, j ∉ js → σ'[j]? = σ[j]?
/-- a target: what it is given is frozen; js: the slots that it may change -/
def tG (G : Gx) (W : WX) (js : List Nat) (s : SG) : TG := fun v σ H Q => ∃ d ρ F Rv, ∃ io : Io G.ex.tabs, Rel G.K io Rv ρ F σ H ∧ Rp G.K F v d ∧ match s d ρ with
  | .ok _ ρ' => ∀ σ' H' F', FLe F F' → Rel G.K io Rv ρ' F' σ' H' → Keeps js σ σ' → Q σ' H'
  | .exc x ρ' => XPost G W io Rv F ρ' x
  | .stuck => False

theorem wkE {X : Cx} {e : Expr} {t u : TE} (h : PE X e t) (w : ∀ σ H Q, u σ H Q → t σ H Q) : PE X e u := ⟨fun pins s σ H Q I q => h.run pins s σ H Q I (w σ H Q q)⟩
theorem wkT {X : Cx} {e : Expr} {t u : TT} (h : PT X e t) (w : ∀ σ H Q, u σ H Q → t σ H Q) : PT X e u := ⟨fun pins s σ H Q I q => h.run pins s σ H Q I (w σ H Q q)⟩
theorem wkA {X : Cx} {e : List Expr} {t u : TA} (h : PA X e t) (w : ∀ σ H Q, u σ H Q → t σ H Q) : PA X e u := ⟨fun pos pins s σ H Q I q => h.run pos pins s σ H Q I (w σ H Q q)⟩
theorem wkS {X : Cx} {e : Stmt} {t u : TS} (h : PS X e t) (w : ∀ D σ H, u D σ H → t D σ H) : PS X e u := ⟨fun pins s σ H D I q => h.run pins s σ H D I (w D σ H q)⟩
theorem wkSs {X : Cx} {e : List Stmt} {t u : TS} (h : PSs X e t) (w : ∀ D σ H, u D σ H → t D σ H) : PSs X e u := ⟨fun pins s σ H D I q => h.run pins s σ H D I (w D σ H q)⟩

/-- an expression's value, locked behind it -/
def tLk (t : TE) : TE := fun σ H Q => t σ H fun v H' => Q v H' ∨ ∃ p o, v = .ref p ∧ H' p = some o ∧ Lkb o ∧ ∀ od, Q v (L2.upd H' p (lk od o))
theorem pe_lk {X : Cx} {e : Expr} {t : TE} (h : PE X e t) : PE X e (tLk t) := ⟨fun pins s σ H Q I q => thn (h.run pins s σ H _ I q) fun v s1 ⟨x, H1, I1, r, q1⟩ => by
  rcases q1 with q1 | ⟨p, o, rfl, e1, l, q1⟩
  · exact ⟨x, H1, I1, r, q1⟩
  · rcases l with ⟨xs, rfl⟩ | ⟨kvs, rfl⟩ | ⟨φ, rfl⟩
    · have e2 : L2.upd H1 p (.lst xs) = H1 := by
        funext a
        by_cases z : a = p
        · subst z; rw [upd_same, e1]
        · rw [upd_ne z]
      obtain ⟨od, _⟩ := I1.lock e1 trivial
      exact ⟨_, H1, I1, r, by have q2 := q1 od; rw [lk_lst, e2] at q2; exact q2⟩
    · obtain ⟨od, I2⟩ := I1.lock e1 trivial
      exact ⟨_, _, I2, r, q1 od⟩
    · obtain ⟨od, I2⟩ := I1.lock e1 trivial
      exact ⟨_, _, I2, r, q1 od⟩⟩
/-- where one stands: the law's context, the wish of exceptions -/
structure At (X : Cx) (W : WX) : Prop where
  calm : X.calm = true
  nd : X.N.Nodup
  un : X.A.units + 64 < cLine
  tk : L2N.Takes X W

abbrev DE (G : Gx) (X : Cx) (W : WX) (e : Expr) (s : SE) : Prop := PE X e (tE G W s)
abbrev DT (G : Gx) (X : Cx) (W : WX) (e : Expr) (s : ST) : Prop := PT X e (tT G W s)
abbrev DA (G : Gx) (X : Cx) (W : WX) (e : List Expr) (s : SA) : Prop := PA X e (tA G W s)
abbrev DO (G : Gx) (X : Cx) (W : WX) (e : Expr) (s : SO) : Prop := PE X e (tO G W s)
abbrev DB (G : Gx) (X : Cx) (W : WX) (e : List Expr) (s : SB) : Prop := PA X e (tB G W s)
abbrev DF (G : Gx) (X : Cx) (W : WX) (e : Expr) (s : SE) : Prop := PE X e (tF G W s)
abbrev DS (G : Gx) (X : Cx) (W : WX) (e : Stmt) (s : SS) : Prop := PS X e (tS G W s)
abbrev DSs (G : Gx) (X : Cx) (W : WX) (e : List Stmt) (s : SS) : Prop := PSs X e (tS G W s)
abbrev DG (G : Gx) (X : Cx) (W : WX) (js : List Nat) (e : Expr) (s : SG) : Prop := PG X e (tG G W js s)

section
variable {G : Gx} {W : WX} {T : List (Addr × Str)} {io : Io T} {Rv F F' F1 : Hp} {ρ ρ' : Env} {σ : L2.St} {H H' : Hp}
theorem XPost.le {x : Exn} (h : XPost G W io Rv F ρ x) (le : FLe F F1) : XPost G W io Rv F1 ρ x := fun cls dd σ' H' F' l => h cls dd σ' H' F' (le.trans l)
theorem EPost.le {d : D} {Q : VK} (h : EPost G io Rv F σ ρ d Q) (le : FLe F F1) : EPost G io Rv F1 σ ρ d Q := fun v H' F' l => h v H' F' (le.trans l)

/-! ### the views of operands -/
def Vw (K : PySem.W.Frag) (F H : Hp) (v : V) (d : D) : Prop := Rp K F v d ∨ ∃ p o, v = .ref p ∧ H p = some o ∧ OwnObj K F p o d
inductive Vws (K : PySem.W.Frag) (F H : Hp) : List V → List D → Prop
  | nil : Vws K F H [] []
  | cons {v : V} {vs : List V} {d : D} {ds : List D} : Vw K F H v d → Vws K F H vs ds → Vws K F H (v :: vs) (d :: ds)
theorem Rel.view (r : Rel G.K io Rv ρ F σ H) {v : V} {o : Opd} {d : D} (h : OpdOk G.K F σ v o) (e : o.get ρ = some d) : Vw G.K F H v d := by
  cases o with
  | val d' => cases e; exact .inl h
  | loc i =>
    have e : (ρ[i]?).bind Cell.data = some d := e
    cases ec : ρ[i]? with
    | none => rw [ec] at e; cases e
    | some c =>
      rw [ec] at e
      have e' : c.data = some d := e
      have q := r.cell i c _ ec h
      cases c with
      | no => cases e'
      | fro _ => cases e'; obtain ⟨x, ex, q⟩ := q; cases ex; exact .inl q
      | own _ => cases e'; obtain ⟨p, ex, q⟩ := q; cases ex; obtain ⟨o, h1, h2⟩ := q.at_; exact .inr ⟨p, o, rfl, h1, h2⟩
      | io _ => cases e'; obtain ⟨p, ex, q⟩ := q; cases ex; obtain ⟨o, h1, h2⟩ := q.at_; exact .inr ⟨p, o, rfl, h1, h2⟩
def getAll (ρ : Env) : List Opd → Option (List D)
  | [] => some []
  | o :: os => (o.get ρ).bind fun d => (getAll ρ os).map fun ds => d :: ds
theorem Rel.views (r : Rel G.K io Rv ρ F σ H) : ∀ {vs : List V} {os : List Opd} {ds : List D}, OpdsOk G.K F σ vs os → getAll ρ os = some ds → Vws G.K F H vs ds
  | _, _, _, .nil, e => by cases e; exact .nil
  | _, _, _, .cons (o := o) (os := os) a b, e => by
    unfold getAll at e
    cases e1 : o.get ρ with
    | none => rw [e1] at e; cases e
    | some d =>
      cases e2 : getAll ρ os with
      | none => rw [e1, e2] at e; cases e
      | some ds => rw [e1, e2] at e; cases e; exact .cons (r.view a e1) (r.views b e2)
theorem Vw.sqT {K : PySem.W.Frag} (fh : FLe F H) {v : V} {ds : List D} (h : Vw K F H v (.tup ds)) : ∃ a xs, v = .ref a ∧ SqT K H a xs ∧ Rps K F xs ds := by
  rcases h with h | ⟨p, o, _, _, h⟩
  · cases h with
    | tup t r => exact ⟨_, _, rfl, fh.sqT t.sq, r⟩
  · exact h.elim
theorem Vw.argT {K : PySem.W.Frag} (fh : FLe F H) {v : V} {ds : List D} (h : Vw K F H v (.arg ds)) : ∃ a xs, v = .ref a ∧ SqT K H a xs ∧ Rps K F xs ds := by
  rcases h with h | ⟨p, o, _, _, h⟩
  · cases h with
    | arg t r => exact ⟨_, _, rfl, fh.sqT t, r⟩
  · exact h.elim
theorem Vw.lst {K : PySem.W.Frag} (fh : FLe F H) {v : V} {ds : List D} (h : Vw K F H v (.lst ds)) : ∃ a xs, v = .ref a ∧ H a = some (.lst xs) ∧ Rps K F xs ds := by
  rcases h with h | ⟨p, o, e, h1, xs, rfl, r⟩
  · cases h with
    | lst t r => exact ⟨_, _, rfl, fh _ _ t, r⟩
  · exact ⟨p, xs, e, h1, r⟩
theorem Vw.dct {K : PySem.W.Frag} (fh : FLe F H) {v : V} {ks : List Key} {ds : List D} (h : Vw K F H v (.dct ks ds)) : ∃ a kvs, v = .ref a ∧ Rd H a (.dK kvs) ∧ kvs.map (·.1) = ks ∧ Rps K F (kvs.map (·.2)) ds := by
  rcases h with h | ⟨p, o, e, h1, kvs, rfl, e2, r⟩
  · cases h with
    | dct t r => exact ⟨_, _, rfl, .inr ⟨_, fh _ _ t⟩, rfl, r⟩
  · exact ⟨p, kvs, e, .inl h1, e2, r⟩
theorem Vw.int {K : PySem.W.Frag} {v : V} {i : Int} (h : Vw K F H v (.int i)) : v = .int i := by
  rcases h with h | ⟨p, o, _, _, h⟩
  · cases h; rfl
  · exact h.elim
theorem Vw.bl {K : PySem.W.Frag} {v : V} {i : Bool} (h : Vw K F H v (.bl i)) : v = .bl i := by
  rcases h with h | ⟨p, o, _, _, h⟩
  · cases h; rfl
  · exact h.elim
theorem Vw.str {K : PySem.W.Frag} {v : V} {i : Str} (h : Vw K F H v (.str i)) : v = .str i := by
  rcases h with h | ⟨p, o, _, _, h⟩
  · cases h; rfl
  · exact h.elim
theorem Vw.non {K : PySem.W.Frag} {v : V} (h : Vw K F H v .non) : v = .non := by
  rcases h with h | ⟨p, o, _, _, h⟩
  · cases h; rfl
  · exact h.elim
theorem Vws.one {K : PySem.W.Frag} {vs : List V} {d : D} (h : Vws K F H vs [d]) : ∃ v, vs = [v] ∧ Vw K F H v d := by
  cases h with
  | cons a b => cases b; exact ⟨_, rfl, a⟩
theorem Vws.two {K : PySem.W.Frag} {vs : List V} {d e : D} (h : Vws K F H vs [d, e]) : ∃ v w, vs = [v, w] ∧ Vw K F H v d ∧ Vw K F H w e := by
  cases h with
  | cons a b => cases b with
    | cons b c => cases c; exact ⟨_, _, rfl, a, b⟩

/-! ### operations by values -/
/-- behind an operation: more is there, what is frozen of it is new -/
structure New (F H F' H' : Hp) : Prop where
  f : FLe F F'
  h : FLe H H'
  fh : FLe F' H'
  new : ∀ a o, F' a = some o → F a = some o ∨ H a = none
  nt : NoTb F → NoTb F'
theorem New.refl (fh : FLe F H) : New F H F H := ⟨FLe.refl F, FLe.refl H, fh, (fun _ _ e => .inl e), fun h => h⟩
theorem Rel.after {K : PySem.W.Frag} (r : Rel K io Rv ρ F σ H) (n : New F H F' H') : Rel K io Rv ρ F' σ H' := r.grow n.f n.h n.fh n.new (n.nt r.nt)
theorem New.obj (fh : FLe F H) {p : Addr} (n : H p = none) (o : HO) (no : ∀ ps, o ≠ .tbl ps := by intro ps z; cases z) : New F H (upd F p o) (upd H p o) := by
  refine ⟨FLe.upd o (fh.noneOf n), FLe.upd o n, (fun a u e => ?_), (fun a u e => ?_), fun h => h.upd no⟩
  · by_cases h : a = p
    · subst h; rw [upd_same] at e ⊢; exact e
    · rw [upd_ne h] at e ⊢; exact fh a u e
  · by_cases h : a = p
    · subst h; exact .inr n
    · rw [upd_ne h] at e; exact .inl e
abbrev RL := List V → Hp → VK → Prop
/-- the rule r computes g on operands that are looked at -/
def PSem (G : Gx) (r : RL) (g : List D → Option D) : Prop := ∀ F H vs ds d (Q : VK), FLe F H → Vws G.K F H vs ds → g ds = some d → (∀ v H' F', New F H F' H' → Rp G.K F' v d → Q v H') → r vs H Q
/-- .. a new object -/
def FSem (G : Gx) (r : RL) (g : List D → Option D) : Prop := ∀ F H vs ds d (Q : VK), FLe F H → Vws G.K F H vs ds → g ds = some d → (∀ p o, H p = none → OwnObj G.K F p o d → Q (.ref p) (upd H p o)) → r vs H Q
theorem FSem.pure {r : RL} {g : List D → Option D} (h : FSem G r g) (hl : ∀ ds d, g ds = some d → ∃ xs, d = .lst xs) : PSem G r g := fun F H vs ds d Q fh vw e q => h F H vs ds d Q fh vw e fun p o n ob => by
  obtain ⟨xs, rfl⟩ := hl ds d e
  obtain ⟨ys, rfl, r⟩ := ob
  exact q _ _ _ (New.obj fh n _) (.lst upd_same (r.mono (FLe.upd _ (fh.noneOf n))))
end

/-! ### expressions -/
section
variable {G : Gx} {X : Cx} {W : WX}
def sCst (d : D) : SE := fun ρ => .ok d ρ
theorem d_cst {e : Expr} {v : V} {d : D} (h : PE X e (tC v)) (r : ∀ F, Rp G.K F v d) : DE G X W e (sCst d) := wkE h fun σ H Q ⟨ρ, F, Rv, io, rel, q⟩ => q v H F (FLe.refl F) rel (r F)
theorem d_int {i j pos} : DE G X W (.Constant (.int i) j pos) (sCst (.int i)) := d_cst pe_int fun _ => .int i
theorem d_bl {i j pos} : DE G X W (.Constant (.bool i) j pos) (sCst (.bl i)) := d_cst pe_bl fun _ => .bl i
theorem d_non {j pos} : DE G X W (.Constant .none j pos) (sCst .non) := d_cst pe_non fun _ => .non
theorem d_str {i j pos} : DE G X W (.Constant (.str i) j pos) (sCst (.str i)) := d_cst pe_str fun _ => .str i
/-- a variable: its own object is frozen -/
def sVar (i : Nat) : SE := fun ρ => match ρ[i]? with
  | some (.fro d) => .ok d ρ
  | some (.own d) => .ok d (ρ.set i (.fro d))
  | _ => .stuck
theorem d_var {e : Expr} {i : Nat} (h : PE X e (tVar i)) : DE G X W e (sVar i) := wkE (pe_lk h) fun σ H Q ⟨ρ, F, Rv, io, rel, q⟩ => by
  unfold sVar at q
  cases e : ρ[i]? with
  | none => rw [e] at q; exact q.elim
  | some c =>
    rw [e] at q
    obtain ⟨v, e2, ok⟩ := rel.slot e
    cases c with
    | no => exact q.elim
    | io _ => exact q.elim
    | fro d =>
      obtain ⟨x, rfl, r⟩ := ok
      exact ⟨x, e2, .inl (q x H F (FLe.refl F) rel r)⟩
    | own d =>
      obtain ⟨p, rfl, w⟩ := ok
      obtain ⟨o, h1, h2⟩ := w.at_
      refine ⟨_, e2, .inr ⟨p, o, rfl, h1, h2.lkb, fun od => ?_⟩⟩
      obtain ⟨le, rel', rp⟩ := rel.freeze e e2 h1 h2 od
      exact q _ _ _ le rel' rp
/-- looked at -/
def sLoc (i : Nat) : SO := fun ρ => match ρ[i]? with
  | some .no => .stuck
  | none => .stuck
  | _ => .ok (.loc i) ρ
theorem d_loc {e : Expr} {i : Nat} (h : PE X e (tVar i)) : DO G X W e (sLoc i) := wkE h fun σ H Q ⟨ρ, F, Rv, io, rel, q⟩ => by
  unfold sLoc at q
  cases e : ρ[i]? with
  | none => rw [e] at q; exact q.elim
  | some c =>
    rw [e] at q
    obtain ⟨v, e2, ok⟩ := rel.slot e
    cases c with
    | no => exact q.elim
    | io d => obtain ⟨p, rfl, w⟩ := ok; exact ⟨_, e2, q _ H F (FLe.refl F) rel e2⟩
    | fro d => obtain ⟨x, rfl, r⟩ := ok; exact ⟨_, e2, q _ H F (FLe.refl F) rel e2⟩
    | own d => obtain ⟨p, rfl, w⟩ := ok; exact ⟨_, e2, q _ H F (FLe.refl F) rel e2⟩
def sVal (s : SE) : SO := fun ρ => (s ρ).bind fun d ρ' => .ok (.val d) ρ'
theorem d_val {e : Expr} {s : SE} (h : DE G X W e s) : DO G X W e (sVal s) := wkE h fun σ H Q ⟨ρ, F, Rv, io, rel, q⟩ => by
  refine ⟨ρ, F, Rv, io, rel, ?_⟩
  unfold sVal at q
  cases e : s ρ with
  | stuck => rw [e] at q; exact q.elim
  | exc x ρ' => rw [e] at q; exact q
  | ok d ρ' => rw [e] at q; exact fun v H' F' le rel' r => q v H' F' le rel' r

def sNil : SA := fun ρ => .ok [] ρ
def sCons (s : SE) (t : SA) : SA := fun ρ => (s ρ).bind fun d ρ1 => (t ρ1).bind fun ds ρ2 => .ok (d :: ds) ρ2
theorem d_nil : DA G X W [] sNil := wkA pa_nil fun σ H Q ⟨ρ, F, Rv, io, rel, q⟩ => q [] H F (FLe.refl F) rel .nil
theorem d_cons {e : Expr} {es : List Expr} {s : SE} {t : SA} (h : DE G X W e s) (ht : DA G X W es t) (hs : starEach (e :: es) X.env = (false, eval e X.env) :: starEach es X.env := by rfl) : DA G X W (e :: es) (sCons s t) :=
  wkA (pa_cons h ht hs) fun σ H Q ⟨ρ, F, Rv, io, rel, q⟩ => by
    refine ⟨ρ, F, Rv, io, rel, ?_⟩
    unfold sCons at q
    cases e : s ρ with
    | stuck => rw [e] at q; exact q.elim
    | exc x ρ' => rw [e] at q; exact q
    | ok d ρ' =>
      rw [e] at q
      refine fun v H' F' le rel' r => ⟨ρ', F', Rv, io, rel', ?_⟩
      rw [R.bind_ok] at q
      cases e2 : t ρ' with
      | stuck => rw [e2] at q; exact q.elim
      | exc x ρ'' => rw [e2] at q; exact XPost.le q le
      | ok ds ρ'' => rw [e2] at q; exact fun vs H2 F2 le2 rel2 r2 => q (v :: vs) H2 F2 (le.trans le2) rel2 (.cons (r.mono le2) r2)
def bNil : SB := fun ρ => .ok [] ρ
def bCons (s : SO) (t : SB) : SB := fun ρ => (s ρ).bind fun d ρ1 => (t ρ1).bind fun ds ρ2 => .ok (d :: ds) ρ2
theorem d_bnil : DB G X W [] bNil := wkA pa_nil fun σ H Q ⟨ρ, F, Rv, io, rel, q⟩ => q [] H F (FLe.refl F) rel .nil
theorem d_bcons {e : Expr} {es : List Expr} {s : SO} {t : SB} (h : DO G X W e s) (ht : DB G X W es t) (hs : starEach (e :: es) X.env = (false, eval e X.env) :: starEach es X.env := by rfl) : DB G X W (e :: es) (bCons s t) :=
  wkA (pa_cons h ht hs) fun σ H Q ⟨ρ, F, Rv, io, rel, q⟩ => by
    refine ⟨ρ, F, Rv, io, rel, ?_⟩
    unfold bCons at q
    cases e : s ρ with
    | stuck => rw [e] at q; exact q.elim
    | exc x ρ' => rw [e] at q; exact q
    | ok d ρ' =>
      rw [e] at q
      refine fun v H' F' le rel' r => ⟨ρ', F', Rv, io, rel', ?_⟩
      rw [R.bind_ok] at q
      cases e2 : t ρ' with
      | stuck => rw [e2] at q; exact q.elim
      | exc x ρ'' => rw [e2] at q; exact XPost.le q le
      | ok ds ρ'' => rw [e2] at q; exact fun vs H2 F2 le2 rel2 r2 => q (v :: vs) H2 F2 (le.trans le2) rel2 (.cons (r.mono le2) r2)

/-- an operation on operands that are looked at -/
def ofO {α : Type} (o : Option α) (ρ : Env) : R α := match o with
  | some a => .ok a ρ
  | none => .stuck
def sOps (g : List D → Option D) (s : SB) : SE := fun ρ => (s ρ).bind fun os ρ' => ofO ((getAll ρ' os).bind g) ρ'
def b1 (s : SO) : SB := bCons s bNil
def b2 (s t : SO) : SB := bCons s (bCons t bNil)
/-- a list of operands behind a rule by values -/
theorem ops_core {r : RL} {g : List D → Option D} (hg : PSem G r g) {s : SB} {σ : L2.St} {H : Hp} {Q : VK} (h : tE G W (sOps g s) σ H Q) : tB G W s σ H fun vs H' => r vs H' Q := by
  obtain ⟨ρ, F, Rv, io, rel, q⟩ := h
  refine ⟨ρ, F, Rv, io, rel, ?_⟩
  unfold sOps at q
  cases e : s ρ with
  | stuck => rw [e] at q; exact q.elim
  | exc x ρ' => rw [e] at q; exact q
  | ok os ρ' =>
    rw [e, R.bind_ok] at q
    refine fun vs H' F' le rel' ok => ?_
    cases e2 : getAll ρ' os with
    | none => rw [e2] at q; exact q.elim
    | some ds =>
      rw [e2, Option.bind_some] at q
      cases e3 : g ds with
      | none => rw [e3] at q; exact q.elim
      | some d =>
        rw [e3] at q
        exact hg F' H' vs ds d Q rel'.fH (rel'.views ok e2) e3 fun v H2 F2 n rp => q v H2 F2 (le.trans n.f) (rel'.after n) rp
theorem opsF_core {r : RL} {g : List D → Option D} (hg : FSem G r g) {s : SB} {σ : L2.St} {H : Hp} {Q : VK} (h : tF G W (sOps g s) σ H Q) : tB G W s σ H fun vs H' => r vs H' Q := by
  obtain ⟨ρ, F, Rv, io, rel, q⟩ := h
  refine ⟨ρ, F, Rv, io, rel, ?_⟩
  unfold sOps at q
  cases e : s ρ with
  | stuck => rw [e] at q; exact q.elim
  | exc x ρ' => rw [e] at q; exact q
  | ok os ρ' =>
    rw [e, R.bind_ok] at q
    refine fun vs H' F' le rel' ok => ?_
    cases e2 : getAll ρ' os with
    | none => rw [e2] at q; exact q.elim
    | some ds =>
      rw [e2, Option.bind_some] at q
      cases e3 : g ds with
      | none => rw [e3] at q; exact q.elim
      | some d =>
        rw [e3] at q
        refine hg F' H' vs ds d Q rel'.fH (rel'.views ok e2) e3 fun p o n ob => ?_
        have nF : F' p = none := rel'.fH.noneOf n
        have nR : Rv p = none := rel'.rH.noneOf n
        exact q p _ F' le (rel'.newH n o) ⟨nF, nR, o, upd_same, ob⟩ (rel'.loose n)
/-- two operands, one after the other -/
theorem two_core {a b : Expr} {sa sb : SO} {σ : L2.St} {H : Hp} {k : List V → Hp → Prop} (h : tB G W (b2 sa sb) σ H k) : tO G W sa σ H fun x H1 => tO G W sb σ H1 fun y H2 => k [x, y] H2 := by
  obtain ⟨ρ, F, Rv, io, rel, q⟩ := h
  refine ⟨ρ, F, Rv, io, rel, ?_⟩
  unfold b2 bCons at q
  cases e : sa ρ with
  | stuck => rw [e] at q; exact q.elim
  | exc x ρ' => rw [e] at q; exact q
  | ok o ρ' =>
    rw [e, R.bind_ok] at q
    refine fun v H' F' le rel' r => ⟨ρ', F', Rv, io, rel', ?_⟩
    cases e2 : sb ρ' with
    | stuck => rw [e2] at q; exact q.elim
    | exc x ρ'' => rw [e2] at q; exact XPost.le q le
    | ok o2 ρ'' =>
      rw [e2] at q
      exact fun w H2 F2 le2 rel2 r2 => q [v, w] H2 F2 (le.trans le2) rel2 (.cons (r.mono le2) (.cons r2 .nil))
theorem one_core {sa : SO} {σ : L2.St} {H : Hp} {k : List V → Hp → Prop} (h : tB G W (b1 sa) σ H k) : tO G W sa σ H fun x H1 => k [x] H1 := by
  obtain ⟨ρ, F, Rv, io, rel, q⟩ := h
  refine ⟨ρ, F, Rv, io, rel, ?_⟩
  unfold b1 bCons at q
  cases e : sa ρ with
  | stuck => rw [e] at q; exact q.elim
  | exc x ρ' => rw [e] at q; exact q
  | ok o ρ' =>
    rw [e, R.bind_ok] at q
    exact fun v H' F' le rel' r => q [v] H' F' le rel' (.cons r .nil)
def r2L (r : R2) : RL := fun vs H Q => ∃ x y, vs = [x, y] ∧ r x y H Q
theorem d_bin {a b : Expr} {op : Operator} {pos : Pos} {r : R2} {g : List D → Option D} {sa sb : SO} (ho : OpR X (binaryOp op) r) (hg : PSem G (r2L r) g) (ha : DO G X W a sa) (hb : DO G X W b sb) : DE G X W (.BinOp a op b pos) (sOps g (b2 sa sb)) :=
  wkE (pe_op ho ha hb) fun σ H Q h => by
    have z := two_core (a := a) (b := b) (ops_core hg h)
    obtain ⟨ρ, F, Rv, io, rel, q⟩ := z
    refine ⟨ρ, F, Rv, io, rel, ?_⟩
    revert q
    cases sa ρ with
    | stuck => exact fun q => q
    | exc x ρ' => exact fun q => q
    | ok o ρ' =>
      intro q v H' F' le rel' r'
      obtain ⟨ρ2, F2, Rv2, io2, rel2, q2⟩ := q v H' F' le rel' r'
      refine ⟨ρ2, F2, Rv2, io2, rel2, ?_⟩
      revert q2
      cases sb ρ2 with
      | stuck => exact fun q => q
      | exc x ρ' => exact fun q => q
      | ok o ρ' =>
        intro q2 w H3 F3 le3 rel3 r3
        obtain ⟨x, y, e, z⟩ := q2 w H3 F3 le3 rel3 r3
        cases e
        exact z
end
end Dt

set_option Elab.async false
set_option linter.all false
set_option maxRecDepth 100000
set_option maxHeartbeats 4000000
/-! Rules that make tuples, the new object told whole: so it is known to have no dictionary of its own (dict(t) asks). -/
namespace Dt
open PySem PySem.Spec PyProof.Rows L2
abbrev tupO (its : List Value) : Obj := { cls := .type "tuple", data := .seq its.toArray }
/-- the new tuple at p -/
def NewT (H : Hp) (xs : List V) (Q : VK) : Prop := ∀ p o, H p = none → o.dict = none → Q (.ref p) (upd H p (.frz o (.tup xs)))
section
variable {X : Cx} {pins : List (Addr × Obj)} {σ : L2.St} {H : Hp} {s : Shared}
theorem frz_ok {P : Program} {w : World} {H : Hp} {h : Heap} {its : List Value} {xs : List V} (z : xs.length ≤ sizeLine) (r : Vals xs its) : ObjOk P w H (h.push (tupO its)) h.objs.size (.frz (tupO its) (.tup xs)) :=
  ⟨Heap.get?_push_size _ rfl, z, its, r, IsTup.new _ _⟩
theorem made {its : List Value} {xs : List V} {Q : VK} (I : Inv X pins σ H s) (r : Vals xs its) (z : xs.length ≤ sizeLine) (q : NewT H xs Q) : EP X pins σ Q (.ref s.heap.objs.size) { s with heap := s.heap.push (tupO its) } :=
  ⟨.ref s.heap.objs.size, _, I.laid (t' := s.toks) (o := .frz (tupO its) (.tup xs)) (fun b ob e => Heap.get?_push_of_some _ e) (Nat.le_refl _) (frz_ok z r), rfl, q _ _ (I.hok.fresh (Nat.le_refl _)) rfl⟩
/-- (a, b, ..) -/
def tTupZ (t : TA) : TE := fun σ H Q => t σ H fun xs H1 => xs.length ≤ sizeLine ∧ NewT H1 xs Q
theorem pe_tupZ {es : List Expr} {t : TA} {x1 : Nat} {pos : Pos} (h : PA X es t) : PE X (.Tuple es x1 pos) (tTupZ t) :=
  ⟨fun pins s σ H Q I hq => wpAny_Tuple_spliced (thn (h.run pos pins s σ H _ I hq) fun us s1 ⟨xs, H1, I1, r, z, q⟩ => ⟨by rw [← r.length]; exact z, made I1 r z q⟩)⟩
/-- t + u -/
def rCatZ (K : PySem.W.Frag) : R2 := fun x y H Q => ∃ (a b : Addr) (xs ys : List V), x = V.ref a ∧ y = V.ref b ∧ SqT K H a xs ∧ SqT K H b ys ∧ xs.length + ys.length ≤ sizeLine ∧ (xs = [] → Q (.ref b) H) ∧ (xs ≠ [] → ys = [] → Q (.ref a) H) ∧ (xs ≠ [] → ys ≠ [] → NewT H (xs ++ ys) Q)
theorem op_catZ : OpR X (binaryOp .Add) (rCatZ X.K) := by
  intro pins s σ H x y v u Q I rx ry ⟨a, b, xs, ys, ex, ey, ha, hb, hz, q0, q1, q2⟩
  subst ex ey
  by_cases hx : xs = []
  · exact op_catA pins s σ H _ _ v u Q I rx ry ⟨a, b, xs, ys, rfl, rfl, ha, hb, hz, q0, q1, fun n => absurd hx n⟩
  · cases rx; cases ry
    obtain ⟨its, r1, p1, _⟩ := I.tuple ha
    obtain ⟨its2, r2, p2, _⟩ := I.tuple hb
    exact HT.cat_tup p1 p2 (fun z => hx (r1.nil_iff.mp z)) (fun z => ⟨.ref a, H, I, rfl, q1 hx (r2.nil_iff.mp z)⟩) (fun z => made I (r1.append r2) (by rw [List.length_append]; exact hz) (q2 hx fun w => z (r2.nil_iff.mpr w))) (by rw [← r1.length, ← r2.length]; exact hz)
/-- t[lo:hi] -/
def rSlZ (K : PySem.W.Frag) : V → Option Int → Option Int → Hp → VK → Prop := fun x lo hi H Q => ∃ (a : Addr) (xs : List V), x = V.ref a ∧ SqT K H a xs ∧
  (HT.sIx xs.length 0 lo = 0 ∧ HT.sIx xs.length xs.length hi = xs.length → Q (.ref a) H) ∧ (¬ (HT.sIx xs.length 0 lo = 0 ∧ HT.sIx xs.length xs.length hi = xs.length) → NewT H (cutV xs lo hi) Q)
theorem sl_tupZ : SlR X (rSlZ X.K) := by
  intro pins s σ H x v vl vu lo hi sl Q I rx hs pl pu ⟨a, xs, ex, hx, q1, q2⟩
  subst ex
  by_cases hw : HT.sIx xs.length 0 lo = 0 ∧ HT.sIx xs.length xs.length hi = xs.length
  · exact sl_tupA pins s σ H _ v vl vu lo hi sl Q I rx hs pl pu ⟨a, xs, rfl, hx, q1, fun n => absurd hw n⟩
  · cases rx
    obtain ⟨its, r, ht, hz⟩ := I.tuple hx
    have hlen : its.toArray.size = xs.length := by rw [List.size_toArray]; exact r.length.symm
    refine ⟨"tuple", _, PyProof.Rows.slot_tuple_getitem.lookup, ht.typeIs, HT.getItem_tuple_cut ht hs pl pu (by rw [hlen]; exact hw) ?_ (by rw [hlen]; exact hz)⟩
    rw [hlen]
    exact made I ((r.drop (HT.sIx xs.length 0 lo)).take (HT.sIx xs.length xs.length hi - HT.sIx xs.length 0 lo)) (Nat.le_trans (cutV_length xs lo hi) hz) (q2 hw)
/-- tuple(x) -/
theorem call_tupleZ : CallR X (.type "tuple") (fun xs H Q => ∃ (p : Addr) (ys : List V), xs = [V.ref p] ∧ ((SqL X.K H p ys ∧ NewT H ys Q) ∨ (SqT X.K H p ys ∧ Q (.ref p) H))) := by
  intro pins s σ H xs us Q I r ⟨p, ys, ex, h⟩
  subst ex
  obtain ⟨u, eu, rx⟩ := vals1 r
  subst eu; cases rx
  rcases h with ⟨hq, q⟩ | ⟨hq, q⟩
  · obtain ⟨its, r', pl, hz⟩ := I.list hq
    have hlen := r'.length
    exact call_tuple_list pl.isList (fun h1 kp => made (s := { s with heap := h1 }) (I.kept (t' := s.toks) kp) r' hz q) (by simp only [List.size_toArray]; omega)
  · obtain ⟨its, r', pl, hz⟩ := I.tuple hq
    exact call_tuple_same pl ⟨.ref p, H, I, rfl, q⟩
/-- t * k -/
theorem tuple_mul1 (l : Addr) (items : Array Value) (n : Nat) (dd : Option Addr) (sl : Array (Option Value)) (u : Tok) :
    Meets (Builtin.«tuple.__mul__» ⟨[.ref l, .int 1 u], []⟩) (fun _ R s => s.heap.get? l = some { cls := .type "tuple", dict := dd, data := .seq items n, slots := sl } ∧ R (.ok (.ret (Value.ref l))) s) :=
  .of_wp fun prog w A R s h => by
    obtain ⟨hp, g, d, tk, os⟩ := s
    obtain ⟨hl, h⟩ := h
    have f1 := AutoSeq1.idx_int
    wp_walk using wpAny_loadPart' hl
    repeat (first
      | (refine wpAny_ite_false (decide_eq_false (by decide)) ?_; wp_walk using wpAny_loadPart' hl)
      | (refine wpAny_ite_true (decide_eq_true (by simp)) ?_; wp_walk using wpAny_loadPart' hl))
    exact ⟨_, rfl, h⟩
/-- t * 1: the same tuple -/
def rRep1 (K : PySem.W.Frag) : R2 := fun x y H Q => ∃ (l : Addr) (xs : List V), x = V.ref l ∧ y = V.int 1 ∧ SqT K H l xs ∧ Q (.ref l) H
theorem op_rep1 : OpR X (binaryOp .Mult) (rRep1 X.K) := by
  intro pins s σ H x y v u Q I rx ry ⟨l, xs, ex, ey, hT, q⟩
  subst ex ey
  cases rx
  obtain ⟨t, rfl⟩ := ry
  obtain ⟨its, r, ⟨⟨cls, dd, data, sl⟩, ho, hc, n, hd⟩, hs⟩ := I.tuple hT
  obtain rfl : cls = _ := hc
  obtain rfl : data = _ := hd
  exact wpAny_binaryOp_repeat_ref (T := "tuple") (U := "int") (by decide) ⟨_, ho, rfl⟩ (fun z => typeIs_int z 1 t) noFill_tuple_mul F.fills_int_mul F.slot_int_rmul repeat_tuple F.slot_int_index.lookup (call_meets F.slot_int_rmul (typeIs_int s 1 t) F.entry_int_rmul (F.args_int_rmul_2 _ _) (int_rmul_tuple 1 t l its.toArray n dd sl)
    ⟨ho, rfl, ⟨_, ho, rfl⟩, call_meets F.slot_tuple_mul ⟨_, ho, rfl⟩ F.entry_tuple_mul (F.args_tuple_mul_2 _ _) (tuple_mul1 l its.toArray n dd sl t) ⟨ho, ⟨.ref l, H, I, rfl, q⟩⟩⟩)
def rRepZ (K : PySem.W.Frag) : R2 := fun x y H Q => ∃ (l : Addr) (k : Int) (xs : List V), x = V.ref l ∧ y = V.int k ∧ SqT K H l xs ∧ xs ≠ [] ∧ 2 ≤ k ∧ k ≤ 1000 ∧ xs.length ≤ 1000 ∧ NewT H (List.replicate k.toNat xs).flatten Q
theorem rep_len {α : Type} {l : List α} {k : Int} (h1 : l.length ≤ 1000) (h2 : k ≤ 1000) : (List.replicate k.toNat l).flatten.length ≤ sizeLine := by
  have h3 : k.toNat * l.length ≤ 1000 * 1000 := Nat.mul_le_mul (by omega) h1
  rw [PyProof.Rows.lm_len_rep_flat, sizeLine_eq]; omega
theorem op_repZ : OpR X (binaryOp .Mult) (rRepZ X.K) := by
  intro pins s σ H x y v u Q I rx ry ⟨l, k, xs, ex, ey, hT, ne, h1, h2, hz, q⟩
  subst ex ey
  cases rx
  obtain ⟨t, rfl⟩ := ry
  obtain ⟨its, r, ⟨⟨cls, dd, data, sl⟩, ho, hc, n, hd⟩, hs⟩ := I.tuple hT
  obtain rfl : cls = _ := hc
  obtain rfl : data = _ := hd
  have le := r.length
  have full : its.toArray.isEmpty = false := by
    cases its with
    | nil => exact absurd (List.eq_nil_of_length_eq_zero le) ne
    | cons a b => rfl
  have sz : ((its.toArray.size : Nat) : Int) * k ≤ 1000 * k := Int.mul_le_mul_of_nonneg_right (by rw [List.size_toArray]; omega) (by omega)
  have b0 : (decide (k < -(2 ^ 63)) || decide (k ≥ 2 ^ 63)) = false := by simp; omega
  have b1 : (its.toArray.isEmpty || k == 1) = false := by rw [full, Bool.false_or]; exact beq_eq_false_iff_ne.mpr (by omega)
  have b2 : (decide (k ≤ 0) || its.toArray.isEmpty) = false := by rw [full, Bool.or_false]; exact decide_eq_false (by omega)
  have b3 : Builtin.Tuple.tupleTooMany (((its.toArray.size : Nat) : Int) * k) = false := by unfold Builtin.Tuple.tupleTooMany; rw [sizeLine_eq]; exact decide_eq_false (by omega)
  refine wpAny_binaryOp_repeat_ref (T := "tuple") (U := "int") (by decide) ⟨_, ho, rfl⟩ (fun z => typeIs_int z k t) noFill_tuple_mul F.fills_int_mul F.slot_int_rmul repeat_tuple F.slot_int_index.lookup (call_meets F.slot_int_rmul (typeIs_int s k t) F.entry_int_rmul (F.args_int_rmul_2 _ _) (int_rmul_tuple k t l its.toArray n dd sl)
    ⟨ho, rfl, ⟨_, ho, rfl⟩, call_meets F.slot_tuple_mul ⟨_, ho, rfl⟩ F.entry_tuple_mul (F.args_tuple_mul_2 _ _) (tuple_mulW l its.toArray n dd sl k t b0 b1 b2 (by omega) b3 (by rw [size_rep, List.size_toArray]; exact rep_len (by omega) h2)) ⟨ho, ?_⟩⟩)
  rw [size_rep]
  exact made I (r.rep k.toNat) (rep_len hz h2) q
end
end Dt

set_option Elab.async false
set_option linter.all false
set_option maxRecDepth 100000
set_option maxHeartbeats 2000000
/-! Operations by values: what they compute on plain data. -/
namespace Dt
open PySem PySem.Spec PyProof.Rows L2

mutual
def D.py : D → Option PyData
  | .non => some .none
  | .bl b => some (.bool b)
  | .int i => some (.int i)
  | .str s => some (.str s)
  | .tup ds => (D.pys ds).map .tuple
  | .lst ds => (D.pys ds).map .list
  | .dct _ _ => none
  | .scr _ => none
  | .arg _ => none
  | .fn _ => none
  | .exn _ => none
  | .nd _ _ => none
def D.pys : List D → Option (List PyData)
  | [] => some []
  | d :: ds => (D.py d).bind fun x => (D.pys ds).map fun xs => x :: xs
end
mutual
theorem Rp.dp {K : PySem.W.Frag} {F : Hp} : ∀ {v : V} {d : D} {e : PyData}, Rp K F v d → d.py = some e → Dp K F v e
  | _, _, _, .non, h => by simp only [D.py] at h; cases h; exact .non
  | _, _, _, .bl b, h => by simp only [D.py] at h; cases h; exact .bl b
  | _, _, _, .int b, h => by simp only [D.py] at h; cases h; exact .int b
  | _, _, _, .str b, h => by simp only [D.py] at h; cases h; exact .str b
  | _, _, _, .tup (ds := ds) t r, h => by
    simp only [D.py] at h
    cases e : D.pys ds with
    | none => rw [e] at h; cases h
    | some xs => rw [e] at h; cases h; exact .tup t.sq (Rps.dp r e)
  | _, _, _, .lst (ds := ds) t r, h => by
    simp only [D.py] at h
    cases e : D.pys ds with
    | none => rw [e] at h; cases h
    | some xs => rw [e] at h; cases h; exact .lst (SqL.of t) (Rps.dp r e)
  | _, _, _, .dct _ _, h => by simp only [D.py] at h; cases h
  | _, _, _, .scr _, h => by simp only [D.py] at h; cases h
  | _, _, _, .arg _ _, h => by simp only [D.py] at h; cases h
  | _, _, _, .fn _, h => by simp only [D.py] at h; cases h
  | _, _, _, .exn _, h => by simp only [D.py] at h; cases h
  | _, _, _, .nd _ _ _ _, h => by simp only [D.py] at h; cases h
theorem Rps.dp {K : PySem.W.Frag} {F : Hp} : ∀ {vs : List V} {ds : List D} {es : List PyData}, Rps K F vs ds → D.pys ds = some es → DpAll K F vs es
  | _, _, _, .nil, h => by simp only [D.pys] at h; cases h; exact .nil
  | _, _, _, .cons (d := d) (ds := ds) a b, h => by
    simp only [D.pys] at h
    cases e1 : D.py d with
    | none => rw [e1] at h; cases h
    | some x =>
      cases e2 : D.pys ds with
      | none => rw [e1, e2] at h; cases h
      | some xs => rw [e1, e2] at h; cases h; exact .cons (Rp.dp a e1) (Rps.dp b e2)
end
theorem Vw.dp {K : PySem.W.Frag} {F H : Hp} (fh : FLe F H) {v : V} {d : D} {e : PyData} (h : Vw K F H v d) (q : d.py = some e) : Dp K H v e := by
  rcases h with h | ⟨p, o, rfl, h1, h2⟩
  · exact (h.mono fh).dp q
  · cases d with
    | lst ds =>
      obtain ⟨xs, rfl, r⟩ := h2
      exact Rp.dp (.lst h1 (r.mono fh)) q
    | _ => first | exact h2.elim | (simp only [D.py] at q; cases q)

section
variable {G : Gx}
def gI (C : Int → Int → Prop) [∀ i j, Decidable (C i j)] (f : Int → Int → D) : List D → Option D
  | [.int i, .int j] => if C i j then some (f i j) else none
  | _ => none
/-- a result that is no object -/
theorem fin_flat {F H : Hp} {K : PySem.W.Frag} {v : V} {d : D} {Q : VK} (fh : FLe F H) (q : ∀ v H' F', New F H F' H' → Rp K F' v d → Q v H') (r : Rp K F v d) : Q v H := q v H F (New.refl fh) r
/-- a rule of two ints -/
theorem psem_I {C : Int → Int → Prop} [∀ i j, Decidable (C i j)] {f : Int → Int → D} {fv : Int → Int → V} (hf : ∀ F i j, Rp G.K F (fv i j) (f i j)) : PSem G (r2L (rI C fv)) (gI C f) := fun F H vs ds d Q fh vw e q => by
  unfold gI at e
  split at e
  · rename_i i j
    split at e
    · rename_i hc
      cases e
      obtain ⟨v, w, rfl, h1, h2⟩ := vw.two
      exact ⟨v, w, rfl, i, j, h1.int, h2.int, hc, fin_flat fh q (hf F i j)⟩
    · cases e
  · cases e
theorem psem_I0 {f : Int → Int → D} {fv : Int → Int → V} (hf : ∀ F i j, Rp G.K F (fv i j) (f i j)) : PSem G (r2L (rI0 fv)) (gI (fun _ _ => True) f) := fun F H vs ds d Q fh vw e q => by
  unfold gI at e
  split at e
  · rename_i i j
    split at e
    · cases e
      obtain ⟨v, w, rfl, h1, h2⟩ := vw.two
      exact ⟨v, w, rfl, i, j, h1.int, h2.int, fin_flat fh q (hf F i j)⟩
    · cases e
  · cases e
def gStr2 (C : Str → Str → Prop) [∀ i j, Decidable (C i j)] (f : Str → Str → D) : List D → Option D
  | [.str i, .str j] => if C i j then some (f i j) else none
  | _ => none
instance (i j : Str) : Decidable (i.length + j.length ≤ sizeLine) := inferInstance
theorem psem_catS : PSem G (r2L fun x y H Q => ∃ i j, x = .str i ∧ y = .str j ∧ i.length + j.length ≤ sizeLine ∧ Q (.str (i ++ j)) H) (gStr2 (fun i j => i.length + j.length ≤ sizeLine) fun i j => .str (i ++ j)) := fun F H vs ds d Q fh vw e q => by
  unfold gStr2 at e
  split at e
  · rename_i i j
    split at e
    · rename_i hc
      cases e
      obtain ⟨v, w, rfl, h1, h2⟩ := vw.two
      exact ⟨v, w, rfl, i, j, h1.str, h2.str, hc, fin_flat fh q (.str _)⟩
    · cases e
  · cases e
theorem psem_strB {f : Str → Str → Bool} : PSem G (r2L fun x y H Q => ∃ i j, x = .str i ∧ y = .str j ∧ Q (.bl (f i j)) H) (gStr2 (fun _ _ => True) fun i j => .bl (f i j)) := fun F H vs ds d Q fh vw e q => by
  unfold gStr2 at e
  split at e
  · rename_i i j
    split at e
    · cases e
      obtain ⟨v, w, rfl, h1, h2⟩ := vw.two
      exact ⟨v, w, rfl, i, j, h1.str, h2.str, fin_flat fh q (.bl _)⟩
    · cases e
  · cases e
/-- tuples -/
def gCatT : List D → Option D
  | [.tup a, .tup b] => if a.length + b.length ≤ sizeLine then some (.tup (a ++ b)) else none
  | _ => none
theorem psem_catT : PSem G (r2L (rCatZ G.K)) gCatT := fun F H vs ds d Q fh vw e q => by
  unfold gCatT at e
  split at e
  · rename_i ds1 ds2
    split at e
    · rename_i hc
      cases e
      obtain ⟨v, w, rfl, h1, h2⟩ := vw.two
      obtain ⟨a, xs, rfl, t1, r1⟩ := h1.sqT fh
      obtain ⟨b, ys, rfl, t2, r2⟩ := h2.sqT fh
      have rp1 : Rp G.K F (.ref a) (.tup ds1) := by rcases h1 with z | ⟨_, _, _, _, z⟩; exact z; exact z.elim
      have rp2 : Rp G.K F (.ref b) (.tup ds2) := by rcases h2 with z | ⟨_, _, _, _, z⟩; exact z; exact z.elim
      refine ⟨_, _, rfl, a, b, xs, ys, rfl, rfl, t1, t2, by rw [r1.length, r2.length]; exact hc, fun z => ?_, fun z1 z2 => ?_, fun z1 z2 p o hp ho => ?_⟩
      · subst z
        cases r1
        exact fin_flat fh q (by simpa using rp2)
      · subst z2
        cases r2
        exact fin_flat fh q (by simpa using rp1)
      · exact q _ _ _ (New.obj fh hp _) (.tup (.new ho) ((r1.append r2).mono (FLe.upd _ (fh.noneOf hp))))
    · cases e
  · cases e
/-- lists -/
def gCatL : List D → Option D
  | [.lst a, .lst b] => if a.length + b.length ≤ sizeLine then some (.lst (a ++ b)) else none
  | _ => none
theorem catL_lst (ds : List D) (d : D) (e : gCatL ds = some d) : ∃ xs, d = .lst xs := by
  unfold gCatL at e
  split at e
  · split at e
    · cases e; exact ⟨_, rfl⟩
    · cases e
  · cases e
theorem fsem_catL : FSem G (r2L rCat) gCatL := fun F H vs ds d Q fh vw e q => by
  unfold gCatL at e
  split at e
  · rename_i ds1 ds2
    split at e
    · rename_i hc
      cases e
      obtain ⟨v, w, rfl, h1, h2⟩ := vw.two
      obtain ⟨a, xs, rfl, t1, r1⟩ := h1.lst fh
      obtain ⟨b, ys, rfl, t2, r2⟩ := h2.lst fh
      exact ⟨_, _, rfl, a, b, xs, ys, rfl, rfl, t1, t2, by rw [r1.length, r2.length]; exact hc, fun p hp => q p _ hp ⟨_, rfl, r1.append r2⟩⟩
    · cases e
  · cases e
/-- a + b -/
def rAddAll (K : PySem.W.Frag) : R2 := fun x y H Q => rI0 (fun i j => .int (i + j)) x y H Q ∨ ((∃ i j, x = .str i ∧ y = .str j ∧ i.length + j.length ≤ sizeLine ∧ Q (.str (i ++ j)) H) ∨ (rCatZ K x y H Q ∨ rCat x y H Q))
theorem op_addAll {X : Cx} : OpR X (binaryOp .Add) (rAddAll X.K) := op_add.or (op_add_str.or (op_catZ.or op_cat))
def gAdd : List D → Option D
  | [.int i, .int j] => some (.int (i + j))
  | [.str i, .str j] => if i.length + j.length ≤ sizeLine then some (.str (i ++ j)) else none
  | [.tup a, .tup b] => if a.length + b.length ≤ sizeLine then some (.tup (a ++ b)) else none
  | [.lst a, .lst b] => if a.length + b.length ≤ sizeLine then some (.lst (a ++ b)) else none
  | _ => none
theorem psem_add : PSem G (r2L (rAddAll G.K)) gAdd := fun F H vs ds d Q fh vw e q => by
  unfold gAdd at e
  split at e
  · rename_i i j
    obtain ⟨x, y, e1, z⟩ := psem_I0 (G := G) (f := fun i j => .int (i + j)) (fv := fun i j => .int (i + j)) (fun _ _ _ => .int _) F H vs [.int i, .int j] d Q fh vw e q
    exact ⟨x, y, e1, .inl z⟩
  · rename_i i j
    obtain ⟨x, y, e1, z⟩ := psem_catS F H vs [.str i, .str j] d Q fh vw e q
    exact ⟨x, y, e1, .inr (.inl z)⟩
  · rename_i i j
    obtain ⟨x, y, e1, z⟩ := psem_catT F H vs [.tup i, .tup j] d Q fh vw e q
    exact ⟨x, y, e1, .inr (.inr (.inl z))⟩
  · rename_i i j
    obtain ⟨x, y, e1, z⟩ := (fsem_catL.pure catL_lst) F H vs [.lst i, .lst j] d Q fh vw e q
    exact ⟨x, y, e1, .inr (.inr (.inr z))⟩
  · cases e
abbrev gSub : List D → Option D := gI (fun _ _ => True) fun i j => .int (i - j)
theorem psem_sub : PSem G (r2L (rI0 fun i j => .int (i - j))) gSub := psem_I0 fun _ _ _ => .int _
instance (i j : Int) : Decidable (CMulW i j) := by unfold CMulW; infer_instance
/-- one factor below 2^64, or both together not too long -/
def CMulA (i j : Int) : Prop := CMul i j ∨ CMulW i j
instance (i j : Int) : Decidable (CMulA i j) := by unfold CMulA CMul; infer_instance
instance (i j : Int) : Decidable (CDivW i j) := by unfold CDivW; infer_instance
instance (i j : Int) : Decidable (CPow i j) := by unfold CPow; infer_instance
/-- a * b: ints; a tuple so often -/
def rMulAll (K : PySem.W.Frag) : R2 := fun x y H Q => rI CMulA (fun i j => .int (i * j)) x y H Q ∨ rRepZ K x y H Q ∨ rRep1 K x y H Q
def gMul : List D → Option D
  | [.int i, .int j] => if CMulA i j then some (.int (i * j)) else none
  | [.tup a, .int k] => if a.isEmpty = false ∧ 1 ≤ k ∧ k ≤ 1000 ∧ a.length ≤ 1000 then some (.tup (List.replicate k.toNat a).flatten) else none
  | _ => none
theorem psem_mul : PSem G (r2L (rMulAll G.K)) gMul := fun F H vs ds d Q fh vw e q => by
  unfold gMul at e
  split at e
  · rename_i i j
    split at e
    · rename_i hc
      cases e
      obtain ⟨v, w, rfl, h1, h2⟩ := vw.two
      exact ⟨v, w, rfl, .inl ⟨i, j, h1.int, h2.int, hc, fin_flat fh q (.int _)⟩⟩
    · cases e
  · rename_i ds1 k
    split at e
    · rename_i hc
      cases e
      obtain ⟨v, w, rfl, h1, h2⟩ := vw.two
      obtain ⟨a, xs, rfl, t1, r1⟩ := h1.sqT fh
      have e2 := h2.int
      subst e2
      obtain ⟨c1, c2, c3, c4⟩ := hc
      by_cases k1 : k = 1
      · subst k1
        refine ⟨_, _, rfl, .inr (.inr ⟨a, xs, rfl, rfl, t1, ?_⟩)⟩
        rcases h1 with h1 | ⟨_, _, _, _, h1⟩
        · refine fin_flat fh q ?_
          have : (List.replicate (1 : Int).toNat ds1).flatten = ds1 := by simp
          rw [this]
          exact h1
        · exact h1.elim
      refine ⟨_, _, rfl, .inr (.inl ⟨a, k, xs, rfl, rfl, t1, fun z => ?_, by omega, c3, by rw [r1.length]; exact c4, fun p o hp ho => q _ _ _ (New.obj fh hp _) (.tup (.new ho) ((r1.rep _).mono (FLe.upd _ (fh.noneOf hp))))⟩)⟩
      subst z
      cases r1
      cases c1
    · cases e
  · cases e
theorem op_mulA {X : Cx} : OpR X (binaryOp .Mult) (rI CMulA fun i j => .int (i * j)) := by
  intro pins s σ H x y v u Q I rx ry ⟨i, j, h1, h2, hc, q⟩
  rcases hc with hc | hc
  · exact op_mul pins s σ H x y v u Q I rx ry ⟨i, j, h1, h2, hc, q⟩
  · exact op_mulW pins s σ H x y v u Q I rx ry ⟨i, j, h1, h2, hc, q⟩
theorem op_mulAll {X : Cx} : OpR X (binaryOp .Mult) (rMulAll X.K) := op_mulA.or (op_repZ.or op_rep1)
abbrev gDiv : List D → Option D := gI CDivW fun i j => .int (i / j)
theorem psem_div : PSem G (r2L (rI CDivW fun i j => .int (i / j))) gDiv := psem_I fun _ _ _ => .int _
abbrev gMod : List D → Option D := gI (fun _ j => 0 < j) fun i j => .int (i % j)
theorem psem_mod : PSem G (r2L (rI (fun _ j => 0 < j) fun i j => .int (i % j))) gMod := psem_I fun _ _ _ => .int _
abbrev gPow : List D → Option D := gI CPow fun i j => .int (i ^ j.toNat)
theorem psem_pow : PSem G (r2L (rI CPow fun i j => .int (i ^ j.toNat))) gPow := psem_I fun _ _ _ => .int _
def gNeg : List D → Option D
  | [.int i] => some (.int (-i))
  | _ => none
theorem psem_neg : PSem G (fun vs H Q => ∃ x, vs = [x] ∧ rU (fun i => .int (-i)) x H Q) gNeg := fun F H vs ds d Q fh vw e q => by
  unfold gNeg at e
  split at e
  · rename_i i
    cases e
    obtain ⟨v, rfl, h1⟩ := vw.one
    exact ⟨v, rfl, i, h1.int, fin_flat fh q (.int _)⟩
  · cases e

/-! ### comparisons -/
def lexI (f : Int → Int → Bool) (g : Str → Str → Bool) : List D → Option D
  | [.int i, .int j] => some (.bl (f i j))
  | [.str i, .str j] => some (.bl (g i j))
  | _ => none
def rOrd (f : Int → Int → Bool) (g : Str → Str → Bool) : R2 := fun x y H Q => rI0 (fun i j => .bl (f i j)) x y H Q ∨ ∃ i j, x = .str i ∧ y = .str j ∧ Q (.bl (g i j)) H
theorem psem_ord {f : Int → Int → Bool} {g : Str → Str → Bool} : PSem G (r2L (rOrd f g)) (lexI f g) := fun F H vs ds d Q fh vw e q => by
  unfold lexI at e
  split at e
  · rename_i i j
    cases e
    obtain ⟨v, w, rfl, h1, h2⟩ := vw.two
    exact ⟨v, w, rfl, .inl ⟨i, j, h1.int, h2.int, fin_flat fh q (.bl _)⟩⟩
  · rename_i i j
    cases e
    obtain ⟨v, w, rfl, h1, h2⟩ := vw.two
    exact ⟨v, w, rfl, .inr ⟨i, j, h1.str, h2.str, fin_flat fh q (.bl _)⟩⟩
  · cases e
abbrev sLt (i j : Str) : Bool := decide (i.cps.toList < j.cps.toList)
abbrev sLe (i j : Str) : Bool := !decide (j.cps.toList < i.cps.toList)
abbrev gLt : List D → Option D := lexI (fun i j => decide (i < j)) sLt
abbrev gLe : List D → Option D := lexI (fun i j => decide (i ≤ j)) sLe
abbrev gGt : List D → Option D := lexI (fun i j => decide (j < i)) fun i j => sLt j i
abbrev gGe : List D → Option D := lexI (fun i j => decide (j ≤ i)) fun i j => sLe j i
theorem op_ltA {X : Cx} : OpR X (compareOp .Lt) (rOrd (fun i j => decide (i < j)) sLt) := op_lt.or op_lt_str
theorem op_leA {X : Cx} : OpR X (compareOp .LtE) (rOrd (fun i j => decide (i ≤ j)) sLe) := op_le.or op_le_str
theorem op_gtA {X : Cx} : OpR X (compareOp .Gt) (rOrd (fun i j => decide (j < i)) fun i j => sLt j i) := op_gt.or op_gt_str
theorem op_geA {X : Cx} : OpR X (compareOp .GtE) (rOrd (fun i j => decide (j ≤ i)) fun i j => sLe j i) := op_ge.or op_ge_str
/-- == at any depth -/
def eqD (a b : D) : Option Bool := (a.py).bind fun x => (b.py).bind fun y => if (SeqAt.shaped x && SeqAt.shaped y) = true then some (PyData.eqv x y) else none
def gEq : List D → Option D
  | [a, b] => (eqD a b).map .bl
  | _ => none
def gNe : List D → Option D
  | [a, b] => (eqD a b).map fun k => .bl (!k)
  | _ => none
theorem eqD_some {a b : D} {k : Bool} (h : eqD a b = some k) : ∃ x y, a.py = some x ∧ b.py = some y ∧ SeqAt.shaped x = true ∧ SeqAt.shaped y = true ∧ k = PyData.eqv x y := by
  unfold eqD at h
  cases e1 : a.py with
  | none => rw [e1] at h; cases h
  | some x =>
    cases e2 : b.py with
    | none => rw [e1, e2] at h; cases h
    | some y =>
      rw [e1, e2] at h
      simp only [Option.bind_some] at h
      split at h
      · rename_i hs
        rw [Bool.and_eq_true] at hs
        cases h
        exact ⟨x, y, rfl, rfl, hs.1, hs.2, rfl⟩
      · cases h
theorem psem_eq : PSem G (r2L (rEqD G.K)) gEq := fun F H vs ds d Q fh vw e q => by
  unfold gEq at e
  split at e
  · rename_i a b
    cases e1 : eqD a b with
    | none => rw [e1] at e; cases e
    | some k =>
      rw [e1] at e
      cases e
      obtain ⟨v, w, rfl, h1, h2⟩ := vw.two
      obtain ⟨x, y, p1, p2, s1, s2, rfl⟩ := eqD_some e1
      exact ⟨v, w, rfl, x, y, h1.dp fh p1, h2.dp fh p2, s1, s2, fin_flat fh q (.bl _)⟩
  · cases e
theorem psem_ne : PSem G (r2L (rNeD G.K)) gNe := fun F H vs ds d Q fh vw e q => by
  unfold gNe at e
  split at e
  · rename_i a b
    cases e1 : eqD a b with
    | none => rw [e1] at e; cases e
    | some k =>
      rw [e1] at e
      cases e
      obtain ⟨v, w, rfl, h1, h2⟩ := vw.two
      obtain ⟨x, y, p1, p2, s1, s2, rfl⟩ := eqD_some e1
      exact ⟨v, w, rfl, x, y, h1.dp fh p1, h2.dp fh p2, s1, s2, fin_flat fh q (.bl _)⟩
  · cases e
/-- is None, is True, is False -/
def isD : D → D → Option Bool
  | .non, .non => some true
  | .bl a, .bl b => some (decide (a = b))
  | _, .non => some false
  | _, _ => none
def gIs : List D → Option D
  | [a, b] => (isD a b).map .bl
  | _ => none
def gIsNot : List D → Option D
  | [a, b] => (isD a b).map fun k => .bl (!k)
  | _ => none
def rIsA (k : Bool) : R2 := fun x y H Q => (y = .non ∧ Q (.bl (xor k (decide (x = .non)))) H) ∨ ∃ a b, x = .bl a ∧ y = .bl b ∧ Q (.bl (xor k (decide (a = b)))) H
theorem op_isA {X : Cx} : OpR X (compareOp .Is) (rIsA false) := by
  intro pins s σ H x y v u Q I rx ry h
  rcases h with ⟨h1, h2⟩ | ⟨a, b, h1, h2, h3⟩
  · exact op_isN pins s σ H x y v u Q I rx ry ⟨h1, by simpa using h2⟩
  · exact op_is_bl pins s σ H x y v u Q I rx ry ⟨a, b, h1, h2, by simpa using h3⟩
theorem op_isNotA {X : Cx} : OpR X (compareOp .IsNot) (rIsA true) := by
  intro pins s σ H x y v u Q I rx ry h
  rcases h with ⟨h1, h2⟩ | ⟨a, b, h1, h2, h3⟩
  · exact op_notN pins s σ H x y v u Q I rx ry ⟨h1, by simpa using h2⟩
  · exact op_isnot_bl pins s σ H x y v u Q I rx ry ⟨a, b, h1, h2, by simpa using h3⟩
theorem Vw.not_non {K : PySem.W.Frag} {F H : Hp} {v : V} {d : D} (h : Vw K F H v d) (n : d ≠ .non) : v ≠ .non := fun e => by
  subst e
  rcases h with h | ⟨p, o, e, _⟩
  · cases h; exact n rfl
  · cases e
theorem isD_vw {K : PySem.W.Frag} {F H : Hp} {v w : V} {a b : D} {k : Bool} (e : isD a b = some k) (h1 : Vw K F H v a) (h2 : Vw K F H w b) : (w = .non ∧ k = decide (v = .non)) ∨ ∃ x y, v = .bl x ∧ w = .bl y ∧ k = decide (x = y) := by
  cases b with
  | non =>
    have ew := h2.non
    subst ew
    left
    refine ⟨rfl, ?_⟩
    cases a with
    | non => have ev := h1.non; subst ev; simp only [isD] at e; cases e; rfl
    | _ =>
      have ne := h1.not_non (by intro z; cases z)
      simp only [isD] at e
      cases e
      exact (decide_eq_false ne).symm
  | bl y =>
    cases a with
    | bl x => simp only [isD] at e; cases e; exact .inr ⟨x, y, h1.bl, h2.bl, rfl⟩
    | _ => simp only [isD] at e; cases e
  | _ => cases a <;> (simp only [isD] at e; cases e)
theorem psem_is : PSem G (r2L (rIsA false)) gIs := fun F H vs ds d Q fh vw e q => by
  unfold gIs at e
  split at e
  · rename_i a b
    cases e1 : isD a b with
    | none => rw [e1] at e; cases e
    | some k =>
      rw [e1] at e
      cases e
      obtain ⟨v, w, rfl, h1, h2⟩ := vw.two
      refine ⟨v, w, rfl, ?_⟩
      rcases isD_vw e1 h1 h2 with ⟨z1, z2⟩ | ⟨x, y, z1, z2, z3⟩
      · subst z2; exact .inl ⟨z1, fin_flat fh q (by simpa using Rp.bl _)⟩
      · subst z3; exact .inr ⟨x, y, z1, z2, fin_flat fh q (by simpa using Rp.bl _)⟩
  · cases e
theorem psem_isNot : PSem G (r2L (rIsA true)) gIsNot := fun F H vs ds d Q fh vw e q => by
  unfold gIsNot at e
  split at e
  · rename_i a b
    cases e1 : isD a b with
    | none => rw [e1] at e; cases e
    | some k =>
      rw [e1] at e
      cases e
      obtain ⟨v, w, rfl, h1, h2⟩ := vw.two
      refine ⟨v, w, rfl, ?_⟩
      rcases isD_vw e1 h1 h2 with ⟨z1, z2⟩ | ⟨x, y, z1, z2, z3⟩
      · subst z2; exact .inl ⟨z1, fin_flat fh q (by simpa using Rp.bl _)⟩
      · subst z3; exact .inr ⟨x, y, z1, z2, fin_flat fh q (by simpa using Rp.bl _)⟩
  · cases e
end
end Dt

set_option Elab.async false
set_option linter.all false
set_option maxRecDepth 100000
set_option maxHeartbeats 2000000
/-! Subscripts, `in`, built-in functions, by values. -/
namespace Dt
open PySem PySem.Spec PyProof.Rows L2

def keyOf : D → Option Key
  | .int i => some (.inl i)
  | .str s => some (.inr s)
  | _ => none
def dLook : List Key → List D → Key → Option D
  | k :: ks, d :: ds, x => if k = x then some d else dLook ks ds x
  | _, _, _ => none
def flatD : D → Bool
  | .non => true
  | .bl _ => true
  | .int _ => true
  | .str _ => true
  | _ => false
def eqF : D → D → Bool
  | .non, .non => true
  | .bl a, .bl b => a == b
  | .bl a, .int b => (if a then 1 else 0) == b
  | .int a, .bl b => a == (if b then 1 else 0)
  | .int a, .int b => a == b
  | .str a, .str b => a == b
  | _, _ => false
section
variable {G : Gx} {K : PySem.W.Frag} {F H : Hp}
theorem keyOf_vw {v : V} {d : D} {k : Key} (h : Vw K F H v d) (e : keyOf d = some k) : v = kV k := by
  cases d with
  | int i => cases e; exact h.int
  | str i => cases e; exact h.str
  | _ => cases e
theorem dLook_val : ∀ {kvs : List (Key × V)} {ks : List Key} {ds : List D} (k : Key), kvs.map (·.1) = ks → Rps K F (kvs.map (·.2)) ds → (valV kvs k = none ∧ dLook ks ds k = none) ∨ ∃ v d, valV kvs k = some v ∧ dLook ks ds k = some d ∧ Rp K F v d
  | [], _, _, k, e, r => by
    subst e
    cases r
    exact .inl ⟨rfl, rfl⟩
  | (k0, v0) :: kvs, _, _, k, e, r => by
    subst e
    cases r with
    | cons a b =>
      by_cases hk : k0 = k
      · exact .inr ⟨v0, _, valV_pos (p := (k0, v0)) hk, by simp only [List.map_cons, dLook]; rw [if_pos hk], a⟩
      · have e1 : valV ((k0, v0) :: kvs) k = valV kvs k := valV_neg (p := (k0, v0)) hk
        simp only [List.map_cons, dLook]
        rw [e1, if_neg hk]
        exact dLook_val k rfl b
theorem flat_vw {v : V} {d : D} (h : Rp K F v d) (f : flatD d = true) : flatV v = true := by
  cases h <;> first | rfl | cases f
theorem eqF_vw {v w : V} {d e : D} (h1 : Rp K F v d) (h2 : Rp K F w e) (f1 : flatD d = true) (f2 : flatD e = true) : eqV v w = eqF d e := by
  cases h1 <;> first
    | (cases f1; done)
    | (cases h2 <;> first | (cases f2; done) | rfl)
theorem flats : ∀ {vs : List V} {ds : List D}, Rps K F vs ds → ds.all flatD = true → vs.all flatV = true
  | _, _, .nil, _ => rfl
  | _, _, .cons a b, h => by
    rw [List.all_cons, Bool.and_eq_true] at h
    rw [List.all_cons, flat_vw a h.1, flats b h.2]
    rfl
theorem inF : ∀ {vs : List V} {ds : List D} {x : V} {d : D}, Rps K F vs ds → Rp K F x d → ds.all flatD = true → flatD d = true → inV x vs = ds.any fun y => eqF y d
  | _, _, _, _, .nil, _, _, _ => rfl
  | _, _, _, _, .cons a b, r, h, f => by
    rw [List.all_cons, Bool.and_eq_true] at h
    have ih := inF b r h.2 f
    unfold inV at ih ⊢
    rw [List.any_cons, List.any_cons, eqF_vw a r h.1 f, ih]
theorem Vw.flat {v : V} {d : D} (h : Vw K F H v d) (f : flatD d = true) : Rp K F v d := by
  rcases h with h | ⟨_, _, _, _, h⟩
  · exact h
  · cases d <;> first | exact h.elim | cases f

/-- x in y -/
def inD (x y : D) : Option Bool := match y with
  | .lst ys => if (flatD x && ys.all flatD) = true then some (ys.any fun y => eqF y x) else none
  | .tup ys => if (flatD x && ys.all flatD) = true then some (ys.any fun y => eqF y x) else none
  | .arg ys => if (flatD x && ys.all flatD) = true then some (ys.any fun y => eqF y x) else none
  | .str j => match x with
    | .str i => some (!(Builtin.Str.occurrences j i 0 j.length 1).isEmpty)
    | _ => none
  | .dct ks ds => (keyOf x).map fun k => (dLook ks ds k).isSome
  | _ => none
def gIn : List D → Option D
  | [x, y] => (inD x y).map .bl
  | _ => none
def gNotIn : List D → Option D
  | [x, y] => (inD x y).map fun k => .bl (!k)
  | _ => none
def rInA (K : PySem.W.Frag) (neg : Bool) : R2 := fun x y H Q => rIn K neg x y H Q ∨ (∃ i j, x = .str i ∧ y = .str j ∧ Q (.bl (xor neg (!(Builtin.Str.occurrences j i 0 j.length 1).isEmpty))) H) ∨
  ∃ a o, y = .ref a ∧ DGet H a x o ∧ Q (.bl (xor neg o.isSome)) H
theorem op_inA {X : Cx} (hu : X.A.units + 64 < cLine) : OpR X (compareOp .In) (rInA X.K false) := by
  intro pins s σ H x y v u Q I rx ry h
  rcases h with h | ⟨i, j, h1, h2, h3⟩ | ⟨a, o, h1, h2, h3⟩
  · exact op_in_seq pins s σ H x y v u Q I rx ry h
  · exact op_in_str pins s σ H x y v u Q I rx ry ⟨i, j, h1, h2, by simpa using h3⟩
  · subst h1
    obtain rfl : u = Value.ref a := ry
    exact d_in (by omega) I h2 rx fun s' I' => ⟨.bl o.isSome, H, I', rfl, by simpa using h3⟩
theorem op_notInA {X : Cx} (hu : X.A.units + 64 < cLine) : OpR X (compareOp .NotIn) (rInA X.K true) := by
  intro pins s σ H x y v u Q I rx ry h
  rcases h with h | ⟨i, j, h1, h2, h3⟩ | ⟨a, o, h1, h2, h3⟩
  · exact op_notIn_seq pins s σ H x y v u Q I rx ry h
  · exact op_notIn_str pins s σ H x y v u Q I rx ry ⟨i, j, h1, h2, by simpa using h3⟩
  · subst h1
    obtain rfl : u = Value.ref a := ry
    exact d_notIn (by omega) I h2 rx fun s' I' => ⟨.bl (!o.isSome), H, I', rfl, by simpa using h3⟩
theorem inD_vw {Q : VK} {neg : Bool} {x y : V} {d e : D} {k : Bool} (fh : FLe F H) (h1 : Vw K F H x d) (h2 : Vw K F H y e) (q : inD d e = some k) (z : Q (.bl (xor neg k)) H) : rInA K neg x y H Q := by
  cases e with
  | lst ys =>
    simp only [inD] at q
    split at q
    · rename_i hf
      cases q
      rw [Bool.and_eq_true] at hf
      obtain ⟨a, xs, rfl, t, r⟩ := h2.lst fh
      have rx := h1.flat hf.1
      refine .inl ⟨a, xs, rfl, .inl (SqL.of t), flat_vw rx hf.1, flats r hf.2, ?_⟩
      rw [inF r rx hf.2 hf.1]
      cases neg <;> simpa using z
    · cases q
  | tup ys =>
    simp only [inD] at q
    split at q
    · rename_i hf
      cases q
      rw [Bool.and_eq_true] at hf
      obtain ⟨a, xs, rfl, t, r⟩ := h2.sqT fh
      have rx := h1.flat hf.1
      refine .inl ⟨a, xs, rfl, .inr t, flat_vw rx hf.1, flats r hf.2, ?_⟩
      rw [inF r rx hf.2 hf.1]
      cases neg <;> simpa using z
    · cases q
  | arg ys =>
    simp only [inD] at q
    split at q
    · rename_i hf
      cases q
      rw [Bool.and_eq_true] at hf
      obtain ⟨a, xs, rfl, t, r⟩ := h2.argT fh
      have rx := h1.flat hf.1
      refine .inl ⟨a, xs, rfl, .inr t, flat_vw rx hf.1, flats r hf.2, ?_⟩
      rw [inF r rx hf.2 hf.1]
      cases neg <;> simpa using z
    · cases q
  | str j =>
    cases d with
    | str i => simp only [inD] at q; cases q; exact .inr (.inl ⟨i, j, h1.str, h2.str, z⟩)
    | _ => simp only [inD] at q; cases q
  | dct ks ds =>
    simp only [inD] at q
    cases ek : keyOf d with
    | none => rw [ek] at q; cases q
    | some k' =>
      rw [ek] at q
      cases q
      obtain ⟨a, kvs, rfl, t, e1, r⟩ := h2.dct fh
      have ex := keyOf_vw h1 ek
      subst ex
      refine .inr (.inr ⟨a, valV kvs k', rfl, .inl ⟨kvs, k', t, rfl, rfl⟩, ?_⟩)
      have z : Q (.bl (xor neg (dLook ks ds k').isSome)) H := z
      rcases dLook_val k' e1 r with ⟨z1, z2⟩ | ⟨v, d', z1, z2, _⟩
      · rw [z1]; rw [z2] at z; exact z
      · rw [z1]; rw [z2] at z; exact z
  | _ => simp only [inD] at q; cases q
theorem psem_in : PSem G (r2L (rInA G.K false)) gIn := fun F H vs ds d Q fh vw e q => by
  unfold gIn at e
  split at e
  · rename_i a b
    cases e1 : inD a b with
    | none => rw [e1] at e; cases e
    | some k =>
      rw [e1] at e
      cases e
      obtain ⟨v, w, rfl, h1, h2⟩ := vw.two
      exact ⟨v, w, rfl, inD_vw fh h1 h2 e1 (fin_flat fh q (by simpa using Rp.bl _))⟩
  · cases e
theorem psem_notIn : PSem G (r2L (rInA G.K true)) gNotIn := fun F H vs ds d Q fh vw e q => by
  unfold gNotIn at e
  split at e
  · rename_i a b
    cases e1 : inD a b with
    | none => rw [e1] at e; cases e
    | some k =>
      rw [e1] at e
      cases e
      obtain ⟨v, w, rfl, h1, h2⟩ := vw.two
      exact ⟨v, w, rfl, inD_vw fh h1 h2 e1 (fin_flat fh q (by simpa using Rp.bl _))⟩
  · cases e

/-! ### subscripts -/
def idxD (x y : D) : Option D := match x with
  | .lst xs => match y with
    | .int i => atI xs i
    | _ => none
  | .tup xs => match y with
    | .int i => atI xs i
    | _ => none
  | .str z => match y with
    | .int i => if z.length ≤ sizeLine then (atI z.cps.toList i).map fun c => .str ⟨#[c]⟩ else none
    | _ => none
  | .dct ks ds => (keyOf y).bind fun k => dLook ks ds k
  | _ => none
def gIdx : List D → Option D
  | [x, y] => idxD x y
  | _ => none
theorem atI_rps {vs : List V} {ds : List D} {i : Int} {d : D} (r : Rps K F vs ds) (h : atI ds i = some d) : ∃ v, atI vs i = some v ∧ Rp K F v d := by
  unfold atI at h ⊢
  rw [r.length]
  cases e : ixN ds.length i with
  | none => rw [e] at h; cases h
  | some j =>
    rw [e] at h
    exact r.get h
def rIxA (K : PySem.W.Frag) : R2 := fun x y H Q => rIx K x y H Q ∨ ∃ a v, x = .ref a ∧ DGet H a y (some v) ∧ Q v H
theorem psem_idx : PSem G (r2L (rIxA G.K)) gIdx := fun F H vs ds d Q fh vw e q => by
  unfold gIdx at e
  split at e
  · rename_i x y
    obtain ⟨v, w, rfl, h1, h2⟩ := vw.two
    refine ⟨v, w, rfl, ?_⟩
    cases x with
    | lst xs =>
      cases y with
      | int i =>
        obtain ⟨a, zs, rfl, t, r⟩ := h1.lst fh
        obtain ⟨u, e1, rp⟩ := atI_rps r e
        exact .inl (.inl ⟨a, zs, i, u, rfl, h2.int, SqL.of t, e1, fin_flat fh q rp⟩)
      | _ => simp only [idxD] at e; cases e
    | tup xs =>
      cases y with
      | int i =>
        obtain ⟨a, zs, rfl, t, r⟩ := h1.sqT fh
        obtain ⟨u, e1, rp⟩ := atI_rps r e
        exact .inl (.inr (.inl ⟨a, zs, i, u, rfl, h2.int, t, e1, fin_flat fh q rp⟩))
      | _ => simp only [idxD] at e; cases e
    | str z =>
      cases y with
      | int i =>
        simp only [idxD] at e
        split at e
        · rename_i hz
          cases e1 : atI z.cps.toList i with
          | none => rw [e1] at e; cases e
          | some c => rw [e1] at e; cases e; exact .inl (.inr (.inr ⟨z, i, c, h1.str, h2.int, hz, e1, fin_flat fh q (.str _)⟩))
        · cases e
      | _ => simp only [idxD] at e; cases e
    | dct ks ds' =>
      simp only [idxD] at e
      cases ek : keyOf y with
      | none => rw [ek] at e; cases e
      | some k =>
        rw [ek] at e
        have e : dLook ks ds' k = some d := e
        obtain ⟨a, kvs, rfl, t, e1, r⟩ := h1.dct fh
        have ew := keyOf_vw h2 ek
        subst ew
        rcases dLook_val k e1 r with ⟨_, z2⟩ | ⟨u, d', z1, z2, rp⟩
        · rw [z2] at e; cases e
        · rw [z2] at e; cases e; exact .inr ⟨a, u, rfl, .inl ⟨kvs, k, t, rfl, z1.symm⟩, fin_flat fh q rp⟩
    | _ => simp only [idxD] at e; cases e
  · cases e

/-! ### built-in functions -/
def r1L (r : V → Hp → VK → Prop) : RL := fun vs H Q => ∃ x, vs = [x] ∧ r x H Q
def gLen : List D → Option D
  | [.str s] => if s.length ≤ sizeLine then some (.int s.length) else none
  | [.tup xs] => some (.int xs.length)
  | [.lst xs] => some (.int xs.length)
  | [.dct ks _] => some (.int ks.length)
  | _ => none
def rLenA (K : PySem.W.Frag) : RL := fun xs H Q => (∃ x n, xs = [x] ∧ LenV K x H n ∧ Q (.int n) H) ∨ ∃ a kvs, xs = [V.ref a] ∧ Rd H a (.dK kvs) ∧ Q (.int kvs.length) H
theorem call_lenA {X : Cx} : CallR X (.builtin "len") (rLenA X.K) := by
  intro pins s σ H xs us Q I r h
  rcases h with h | ⟨a, kvs, rfl, ha, q⟩
  · exact call_len pins s σ H xs us Q I r h
  · obtain ⟨u, rfl, ru⟩ := vals1 r
    cases ru
    exact d_len I ha fun t s' I' => ⟨.int kvs.length, H, I', ⟨t, rfl⟩, q⟩
theorem psem_len : PSem G (rLenA G.K) gLen := fun F H vs ds d Q fh vw e q => by
  unfold gLen at e
  split at e
  · split at e
    · rename_i z hz
      cases e
      obtain ⟨v, rfl, h⟩ := vw.one
      have ev := h.str
      subst ev
      exact .inl ⟨_, _, rfl, ⟨hz, rfl⟩, fin_flat fh q (.int _)⟩
    · cases e
  · cases e
    obtain ⟨v, rfl, h⟩ := vw.one
    obtain ⟨a, xs, rfl, t, r⟩ := h.sqT fh
    exact .inl ⟨_, _, rfl, .inr ⟨xs, t, r.length.symm⟩, fin_flat fh q (.int _)⟩
  · cases e
    obtain ⟨v, rfl, h⟩ := vw.one
    obtain ⟨a, xs, rfl, t, r⟩ := h.lst fh
    exact .inl ⟨_, _, rfl, .inl ⟨xs, SqL.of t, r.length.symm⟩, fin_flat fh q (.int _)⟩
  · cases e
    obtain ⟨v, rfl, h⟩ := vw.one
    obtain ⟨a, kvs, rfl, t, e1, r⟩ := h.dct fh
    refine .inr ⟨a, kvs, rfl, t, fin_flat fh q ?_⟩
    rw [← e1, List.length_map]
    exact .int _
  · cases e
def gInt : List D → Option D
  | [.int i] => some (.int i)
  | [.bl b] => some (.int (if b then 1 else 0))
  | _ => none
theorem psem_int : PSem G (fun xs H Q => (∃ i, xs = [V.int i] ∧ Q (.int i) H) ∨ ∃ k, xs = [V.bl k] ∧ Q (.int (if k then 1 else 0)) H) gInt := fun F H vs ds d Q fh vw e q => by
  unfold gInt at e
  split at e
  · cases e
    obtain ⟨v, rfl, h⟩ := vw.one
    exact .inl ⟨_, by rw [h.int], fin_flat fh q (.int _)⟩
  · cases e
    obtain ⟨v, rfl, h⟩ := vw.one
    exact .inr ⟨_, by rw [h.bl], fin_flat fh q (.int _)⟩
  · cases e
def gBool : List D → Option D
  | [.int i] => some (.bl (i != 0))
  | [.bl b] => some (.bl b)
  | _ => none
theorem psem_bool : PSem G (fun xs H Q => (∃ i, xs = [V.int i] ∧ Q (.bl (i != 0)) H) ∨ ∃ k, xs = [V.bl k] ∧ Q (.bl k) H) gBool := fun F H vs ds d Q fh vw e q => by
  unfold gBool at e
  split at e
  · cases e
    obtain ⟨v, rfl, h⟩ := vw.one
    exact .inl ⟨_, by rw [h.int], fin_flat fh q (.bl _)⟩
  · cases e
    obtain ⟨v, rfl, h⟩ := vw.one
    exact .inr ⟨_, by rw [h.bl], fin_flat fh q (.bl _)⟩
  · cases e
def gAbs : List D → Option D
  | [.int i] => some (.int (if i < 0 then -i else i))
  | _ => none
theorem psem_abs : PSem G (fun xs H Q => ∃ i, xs = [V.int i] ∧ Q (.int (if i < 0 then -i else i)) H) gAbs := fun F H vs ds d Q fh vw e q => by
  unfold gAbs at e
  split at e
  · cases e
    obtain ⟨v, rfl, h⟩ := vw.one
    exact ⟨_, by rw [h.int], fin_flat fh q (.int _)⟩
  · cases e
def gMax2 : List D → Option D
  | [.int i, .int j] => some (.int (if j > i then j else i))
  | _ => none
theorem psem_max2 : PSem G (fun xs H Q => ∃ i j, xs = [V.int i, V.int j] ∧ Q (.int (if j > i then j else i)) H) gMax2 := fun F H vs ds d Q fh vw e q => by
  unfold gMax2 at e
  split at e
  · cases e
    obtain ⟨v, w, rfl, h1, h2⟩ := vw.two
    exact ⟨_, _, by rw [h1.int, h2.int], fin_flat fh q (.int _)⟩
  · cases e
def gMin2 : List D → Option D
  | [.int i, .int j] => some (.int (if j < i then j else i))
  | _ => none
theorem psem_min2 : PSem G (fun xs H Q => ∃ i j, xs = [V.int i, V.int j] ∧ Q (.int (if j < i then j else i)) H) gMin2 := fun F H vs ds d Q fh vw e q => by
  unfold gMin2 at e
  split at e
  · cases e
    obtain ⟨v, w, rfl, h1, h2⟩ := vw.two
    exact ⟨_, _, by rw [h1.int, h2.int], fin_flat fh q (.int _)⟩
  · cases e
def intsOf : List D → Option (List Int)
  | [] => some []
  | .int i :: ds => (intsOf ds).map fun r => i :: r
  | _ => none
theorem ints_vw : ∀ {vs : List V} {ds : List D} {ns : List Int}, Rps K F vs ds → intsOf ds = some ns → vs = ns.map V.int
  | _, _, _, .nil, e => by simp only [intsOf] at e; cases e; rfl
  | _, _, _, .cons (d := d) (ds := ds) a b, e => by
    cases a with
    | int i =>
      simp only [intsOf] at e
      cases e1 : intsOf ds with
      | none => rw [e1] at e; cases e
      | some r => rw [e1] at e; cases e; rw [List.map_cons, ints_vw b e1]
    | _ => simp only [intsOf] at e; cases e
def blsOf : List D → Option (List Bool)
  | [] => some []
  | .bl i :: ds => (blsOf ds).map fun r => i :: r
  | _ => none
theorem bls_vw : ∀ {vs : List V} {ds : List D} {ns : List Bool}, Rps K F vs ds → blsOf ds = some ns → vs = ns.map V.bl
  | _, _, _, .nil, e => by simp only [blsOf] at e; cases e; rfl
  | _, _, _, .cons (d := d) (ds := ds) a b, e => by
    cases a with
    | bl i =>
      simp only [blsOf] at e
      cases e1 : blsOf ds with
      | none => rw [e1] at e; cases e
      | some r => rw [e1] at e; cases e; rw [List.map_cons, bls_vw b e1]
    | _ => simp only [blsOf] at e; cases e
def gSum : List D → Option D
  | [.lst xs] => (intsOf xs).map fun ns => .int ns.sum
  | _ => none
theorem psem_sum : PSem G (rSum G.K) gSum := fun F H vs ds d Q fh vw e q => by
  unfold gSum at e
  split at e
  · rename_i xs
    cases e1 : intsOf xs with
    | none => rw [e1] at e; cases e
    | some ns =>
      rw [e1] at e
      cases e
      obtain ⟨v, rfl, h⟩ := vw.one
      obtain ⟨a, zs, rfl, t, r⟩ := h.lst fh
      have ez := ints_vw r e1
      subst ez
      exact ⟨a, ns, rfl, SqL.of t, fin_flat fh q (.int _)⟩
  · cases e
def gAll : List D → Option D
  | [.lst xs] => (blsOf xs).map fun ns => .bl (ns.all id)
  | _ => none
theorem psem_all : PSem G (rAll G.K) gAll := fun F H vs ds d Q fh vw e q => by
  unfold gAll at e
  split at e
  · rename_i xs
    cases e1 : blsOf xs with
    | none => rw [e1] at e; cases e
    | some ns =>
      rw [e1] at e
      cases e
      obtain ⟨v, rfl, h⟩ := vw.one
      obtain ⟨a, zs, rfl, t, r⟩ := h.lst fh
      have ez := bls_vw r e1
      subst ez
      exact ⟨a, ns, rfl, SqL.of t, fin_flat fh q (.bl _)⟩
  · cases e
def gAny : List D → Option D
  | [.lst xs] => (blsOf xs).map fun ns => .bl (ns.any id)
  | _ => none
theorem psem_any : PSem G (rAny G.K) gAny := fun F H vs ds d Q fh vw e q => by
  unfold gAny at e
  split at e
  · rename_i xs
    cases e1 : blsOf xs with
    | none => rw [e1] at e; cases e
    | some ns =>
      rw [e1] at e
      cases e
      obtain ⟨v, rfl, h⟩ := vw.one
      obtain ⟨a, zs, rfl, t, r⟩ := h.lst fh
      have ez := bls_vw r e1
      subst ez
      exact ⟨a, ns, rfl, SqL.of t, fin_flat fh q (.bl _)⟩
  · cases e
/-- a key as data -/
def keyD : Key → D
  | .inl i => .int i
  | .inr z => .str z
theorem rp_key (k : Key) : Rp K F (kV k) (keyD k) := by
  cases k with
  | inl i => exact .int i
  | inr z => exact .str z
theorem rps_keys : ∀ {kvs : List (Key × V)}, Rps K F (kvs.map fun kv => kV kv.1) ((kvs.map (·.1)).map keyD)
  | [] => .nil
  | kv :: kvs => .cons (rp_key kv.1) rps_keys
def rListA (K : PySem.W.Frag) : List V → Hp → VK → Prop := fun xs H Q => (∃ p ys, xs = [V.ref p] ∧ (SqL K H p ys ∨ SqT K H p ys) ∧ ∀ l, H l = none → Q (.ref l) (upd H l (.lst ys))) ∨
  ∃ (a : Addr) (kvs : List (Key × V)), xs = [V.ref a] ∧ Rd H a (.dK kvs) ∧ ∀ p, H p = none → Q (.ref p) (upd H p (.lst (kvs.map fun kv => kV kv.1)))
theorem call_listA {X : Cx} (calm : X.calm = true) : CallR X (.type "list") (rListA X.K) := by
  intro pins s σ H xs us Q I r h
  rcases h with h | h
  · exact call_list_of pins s σ H xs us Q I r h
  · exact call_listD calm pins s σ H xs us Q I r h
/-- list(..): a new list -/
def gList : List D → Option D
  | [.lst xs] => some (.lst xs)
  | [.tup xs] => some (.lst xs)
  | [.scr ns] => some (.lst (ns.map .int))
  | [.dct ks _] => some (.lst (ks.map keyD))
  | _ => none
theorem rps_ints : ∀ ns : List Int, Rps K F (ns.map V.int) (ns.map D.int)
  | [] => .nil
  | n :: ns => .cons (.int n) (rps_ints ns)
theorem fsem_list : FSem G (rListA G.K) gList := fun F H vs ds d Q fh vw e q => by
  unfold gList at e
  split at e
  · cases e
    obtain ⟨v, rfl, h⟩ := vw.one
    obtain ⟨a, zs, rfl, t, r⟩ := h.lst fh
    exact .inl ⟨a, zs, rfl, .inl (SqL.of t), fun l hl => q l _ hl ⟨_, rfl, r⟩⟩
  · cases e
    obtain ⟨v, rfl, h⟩ := vw.one
    obtain ⟨a, zs, rfl, t, r⟩ := h.sqT fh
    exact .inl ⟨a, zs, rfl, .inr t, fun l hl => q l _ hl ⟨_, rfl, r⟩⟩
  · rename_i ns
    cases e
    obtain ⟨v, rfl, h⟩ := vw.one
    rcases h with h | ⟨_, _, _, _, h⟩
    · cases h with
      | scr t => exact .inl ⟨_, _, rfl, .inl (fh.sqL t), fun l hl => q l _ hl ⟨_, rfl, rps_ints ns⟩⟩
    · exact h.elim
  · cases e
    obtain ⟨v, rfl, h⟩ := vw.one
    obtain ⟨a, kvs, rfl, rd, rfl, r⟩ := h.dct fh
    exact .inr ⟨a, kvs, rfl, rd, fun l hl => q l _ hl ⟨_, rfl, rps_keys⟩⟩
  · cases e
def gTuple : List D → Option D
  | [.lst xs] => some (.tup xs)
  | [.tup xs] => some (.tup xs)
  | _ => none
theorem psem_tuple : PSem G (fun xs H Q => ∃ p ys, xs = [V.ref p] ∧ ((SqL G.K H p ys ∧ NewT H ys Q) ∨ (SqT G.K H p ys ∧ Q (.ref p) H))) gTuple := fun F H vs ds d Q fh vw e q => by
  unfold gTuple at e
  split at e
  · cases e
    obtain ⟨v, rfl, h⟩ := vw.one
    obtain ⟨a, zs, rfl, t, r⟩ := h.lst fh
    exact ⟨a, zs, rfl, .inl ⟨SqL.of t, fun l o hl ho => q _ _ _ (New.obj fh hl _) (.tup (.new ho) (r.mono (FLe.upd _ (fh.noneOf hl))))⟩⟩
  · cases e
    obtain ⟨v, rfl, h⟩ := vw.one
    obtain ⟨a, zs, rfl, t, r⟩ := h.sqT fh
    rcases h with h | ⟨_, _, _, _, h⟩
    · exact ⟨a, zs, rfl, .inr ⟨t, fin_flat fh q h⟩⟩
    · exact h.elim
  · cases e

/-! ### slices -/
def rSlAll (K : PySem.W.Frag) : V → Option Int → Option Int → Hp → VK → Prop := fun x lo hi H Q => rSlZ K x lo hi H Q ∨ (rSlS x lo hi H Q ∨ rSlL K x lo hi H Q)
theorem sl_all {X : Cx} : SlR X (rSlAll X.K) := sl_tupZ.or (sl_str.or sl_list)
def cutD (xs : List D) (lo hi : Option Int) : List D := (xs.drop (HT.sIx xs.length 0 lo)).take (HT.sIx xs.length xs.length hi - HT.sIx xs.length 0 lo)
def sliceD (x : D) (lo hi : Option Int) : Option D := match x with
  | .tup xs => some (.tup (cutD xs lo hi))
  | .lst xs => some (.lst (cutD xs lo hi))
  | .str z => if z.length ≤ sizeLine then some (.str (cutS z lo hi)) else none
  | _ => none
theorem cut_rps {vs : List V} {ds : List D} (r : Rps K F vs ds) (lo hi : Option Int) : Rps K F (cutV vs lo hi) (cutD ds lo hi) := by
  unfold cutV cutD
  rw [r.length]
  exact (r.drop _).take _
theorem slice_vw {x : V} {d e : D} {lo hi : Option Int} {Q : VK} (fh : FLe F H) (h : Vw G.K F H x d) (s : sliceD d lo hi = some e) (q : ∀ v H' F', New F H F' H' → Rp G.K F' v e → Q v H') : rSlAll G.K x lo hi H Q := by
  cases d with
  | tup xs =>
    cases s
    obtain ⟨a, zs, rfl, t, r⟩ := h.sqT fh
    refine .inl ⟨a, zs, rfl, t, fun z => ?_, fun z p o hp ho => q _ _ _ (New.obj fh hp _) (.tup (.new ho) ((cut_rps r lo hi).mono (FLe.upd _ (fh.noneOf hp))))⟩
    have ec : cutD xs lo hi = xs := by
      unfold cutD
      rw [← r.length, z.1, z.2]
      simp [r.length]
    rw [ec] at q
    rcases h with h | ⟨_, _, _, _, h⟩
    · exact fin_flat fh q h
    · exact h.elim
  | lst xs =>
    cases s
    obtain ⟨a, zs, rfl, t, r⟩ := h.lst fh
    exact .inr (.inr ⟨a, zs, rfl, SqL.of t, fun p hp => q _ _ _ (New.obj fh hp _) (.lst upd_same ((cut_rps r lo hi).mono (FLe.upd _ (fh.noneOf hp))))⟩)
  | str z =>
    simp only [sliceD] at s
    split at s
    · rename_i hz
      cases s
      exact .inr (.inl ⟨z, h.str, hz, fin_flat fh q (.str _)⟩)
    · cases s
  | _ => simp only [sliceD] at s; cases s

/-! ### isinstance -/
def tyN : D → String
  | .non => "NoneType"
  | .bl _ => "bool"
  | .int _ => "int"
  | .str _ => "str"
  | .tup _ => "tuple"
  | .lst _ => "list"
  | .dct _ _ => "dict"
  | .scr _ => "list"
  | .arg _ => "tuple"
  | .fn _ => "NoneType"
  | .exn _ => "NoneType"
  | .nd _ _ => "dict"
/-- a def as a value: its type is not asked -/
def D.isFn : D → Bool
  | .fn _ => true
  | .exn _ => true
  | .nd _ _ => true
  | _ => false
theorem ty_vw {v : V} {d : D} (fh : FLe F H) (h : Vw K F H v d) (hd : d.isFn = false) : TyX K H v (.type (tyN d)) := by
  rcases h with h | ⟨p, o, rfl, h1, h2⟩
  · cases h with
    | fn _ => cases hd
    | exn _ => cases hd
    | nd _ _ _ _ => cases hd
    | non => exact .base .non
    | bl b => exact .base (.bl b)
    | int b => exact .base (.int b)
    | str b => exact .base (.str b)
    | arg t r =>
      rcases fh.sqT t with (t | ⟨o, t⟩) | ⟨o, its, n, hk, hc, _⟩
      · exact .base (.tup t)
      · exact .fTuple t
      · exact .kTuple hk hc
    | tup t r =>
      rcases fh.sqT (t.sq (K := K)) with (t | ⟨o, t⟩) | ⟨o, its, n, hk, hc, _⟩
      · exact .base (.tup t)
      · exact .fTuple t
      · exact .kTuple hk hc
    | lst t r => exact .base (.lst (fh _ _ t))
    | dct t r => exact .fDict (fh _ _ t)
    | scr t =>
      rcases fh.sqL t with (t | ⟨o, t⟩) | ⟨o, its, n, hk, hc, _⟩
      · exact .base (.lst t)
      · exact .base (.frz t)
      · exact .kList hk hc
  · cases d with
    | lst ds => obtain ⟨xs, rfl, _⟩ := h2; exact .base (.lst h1)
    | dct ks ds => obtain ⟨kvs, rfl, _⟩ := h2; exact .base (.dK h1)
    | nd ks ds => cases hd
    | _ => exact h2.elim
end
end Dt

set_option Elab.async false
set_option linter.all false
set_option maxRecDepth 100000
set_option maxHeartbeats 2000000
/-! The judgements' rules: expressions and tests. -/
namespace Dt
open PySem PySem.Spec PyProof.Rows L2

section
variable {K : PySem.W.Frag} {ex : Exx} {X : Cx} {W : WX} {σ : L2.St} {H : Hp}
abbrev GK (X : Cx) (ex : Exx) : Gx := ⟨X.K, ex⟩

theorem tO_mono {G : Gx} {s : SO} {Q Q' : VK} (h : tO G W s σ H Q) (w : ∀ v H, Q v H → Q' v H) : tO G W s σ H Q' := by
  obtain ⟨ρ, F, Rv, io, rel, q⟩ := h
  refine ⟨ρ, F, Rv, io, rel, ?_⟩
  revert q
  cases s ρ with
  | stuck => exact fun q => q
  | exc x ρ' => exact fun q => q
  | ok o ρ' => exact fun q v H' F' le rel' r => w v H' (q v H' F' le rel' r)
theorem tE_mono {G : Gx} {s : SE} {Q Q' : VK} (h : tE G W s σ H Q) (w : ∀ v H, Q v H → Q' v H) : tE G W s σ H Q' := by
  obtain ⟨ρ, F, Rv, io, rel, q⟩ := h
  refine ⟨ρ, F, Rv, io, rel, ?_⟩
  revert q
  cases s ρ with
  | stuck => exact fun q => q
  | exc x ρ' => exact fun q => q
  | ok o ρ' => exact fun q v H' F' le rel' r => w v H' (q v H' F' le rel' r)
theorem two_ops {G : Gx} {r : R2} {g : List D → Option D} {sa sb : SO} {Q : VK} (hg : PSem G (r2L r) g) (h : tE G W (sOps g (b2 sa sb)) σ H Q) : tO G W sa σ H fun x H1 => tO G W sb σ H1 fun y H2 => r x y H2 Q :=
  tO_mono (two_core (a := .Name Str.empty ⟨0, 0, 0, 0⟩) (b := .Name Str.empty ⟨0, 0, 0, 0⟩) (ops_core hg h)) fun x H1 z => tO_mono z fun y H2 ⟨x', y', e, z'⟩ => by cases e; exact z'
theorem two_opsF {G : Gx} {r : R2} {g : List D → Option D} {sa sb : SO} {Q : VK} (hg : FSem G (r2L r) g) (h : tF G W (sOps g (b2 sa sb)) σ H Q) : tO G W sa σ H fun x H1 => tO G W sb σ H1 fun y H2 => r x y H2 Q :=
  tO_mono (two_core (a := .Name Str.empty ⟨0, 0, 0, 0⟩) (b := .Name Str.empty ⟨0, 0, 0, 0⟩) (opsF_core hg h)) fun x H1 z => tO_mono z fun y H2 ⟨x', y', e, z'⟩ => by cases e; exact z'
theorem one_ops {G : Gx} {r : V → Hp → VK → Prop} {g : List D → Option D} {sa : SO} {Q : VK} (hg : PSem G (r1L r) g) (h : tE G W (sOps g (b1 sa)) σ H Q) : tO G W sa σ H fun x H1 => r x H1 Q :=
  tO_mono (one_core (ops_core hg h)) fun x H1 ⟨x', e, z'⟩ => by cases e; exact z'

variable {a b c : Expr} {pos : Pos} {sa sb sc : SO}
/-- a op b -/
theorem d_op {op : Operator} {r : R2} {g : List D → Option D} (ho : OpR X (binaryOp op) r) (hg : PSem (GK X ex) (r2L r) g) (ha : DO (GK X ex) X W a sa) (hb : DO (GK X ex) X W b sb) : DE (GK X ex) X W (.BinOp a op b pos) (sOps g (b2 sa sb)) :=
  wkE (pe_op ho ha hb) fun σ H Q h => two_ops hg h
theorem d_opF {op : Operator} {r : R2} {g : List D → Option D} (ho : OpR X (binaryOp op) r) (hg : FSem (GK X ex) (r2L r) g) (ha : DO (GK X ex) X W a sa) (hb : DO (GK X ex) X W b sb) : DF (GK X ex) X W (.BinOp a op b pos) (sOps g (b2 sa sb)) :=
  wkE (pe_op ho ha hb) fun σ H Q h => two_opsF hg h
theorem d_add (ha : DO (GK X ex) X W a sa) (hb : DO (GK X ex) X W b sb) : DE (GK X ex) X W (.BinOp a .Add b pos) (sOps gAdd (b2 sa sb)) := d_op op_addAll psem_add ha hb
theorem d_addF (ha : DO (GK X ex) X W a sa) (hb : DO (GK X ex) X W b sb) : DF (GK X ex) X W (.BinOp a .Add b pos) (sOps gCatL (b2 sa sb)) := d_opF op_cat fsem_catL ha hb
theorem d_sub (ha : DO (GK X ex) X W a sa) (hb : DO (GK X ex) X W b sb) : DE (GK X ex) X W (.BinOp a .Sub b pos) (sOps gSub (b2 sa sb)) := d_op op_sub psem_sub ha hb
theorem d_mul (ha : DO (GK X ex) X W a sa) (hb : DO (GK X ex) X W b sb) : DE (GK X ex) X W (.BinOp a .Mult b pos) (sOps gMul (b2 sa sb)) := d_op op_mulAll psem_mul ha hb
theorem d_div (ha : DO (GK X ex) X W a sa) (hb : DO (GK X ex) X W b sb) : DE (GK X ex) X W (.BinOp a .FloorDiv b pos) (sOps gDiv (b2 sa sb)) := d_op op_fdivW psem_div ha hb
theorem d_mod (ha : DO (GK X ex) X W a sa) (hb : DO (GK X ex) X W b sb) : DE (GK X ex) X W (.BinOp a .Mod b pos) (sOps gMod (b2 sa sb)) := d_op op_mod psem_mod ha hb
theorem d_pow (ha : DO (GK X ex) X W a sa) (hb : DO (GK X ex) X W b sb) : DE (GK X ex) X W (.BinOp a .Pow b pos) (sOps gPow (b2 sa sb)) := d_op op_pow psem_pow ha hb
theorem d_neg (ha : DO (GK X ex) X W a sa) : DE (GK X ex) X W (.UnaryOp .USub a pos) (sOps gNeg (b1 sa)) :=
  wkE (pe_un un_neg ha) fun σ H Q h => one_ops (r := rU fun i => .int (-i)) psem_neg h

/-! ### comparisons, as values and as tests -/
def sTst (s : SE) : ST := fun ρ => (s ρ).bind fun d ρ' => match d with
  | .bl k => .ok k ρ'
  | _ => .stuck
theorem tst_core {G : Gx} {s : SE} {Q : Bool → Hp → Prop} (h : tT G W (sTst s) σ H Q) : tE G W s σ H fun x H' => ∃ k, x = .bl k ∧ Q k H' := by
  obtain ⟨ρ, F, Rv, io, rel, q⟩ := h
  refine ⟨ρ, F, Rv, io, rel, ?_⟩
  unfold sTst at q
  cases e : s ρ with
  | stuck => rw [e] at q; exact q.elim
  | exc x ρ' => rw [e] at q; exact q
  | ok d ρ' =>
    rw [e, R.bind_ok] at q
    cases d with
    | bl k => intro v H' F' le rel' r; cases r; exact ⟨k, rfl, q H' F' le rel'⟩
    | _ => exact q.elim
theorem d_cmp {op : CmpOp} {r : R2} {g : List D → Option D} (ho : OpR X (compareOp op) r) (hg : PSem (GK X ex) (r2L r) g) (ha : DO (GK X ex) X W a sa) (hb : DO (GK X ex) X W b sb) (hm : behindInMarks op b = false) : DE (GK X ex) X W (.Compare a [op] [b] pos) (sOps g (b2 sa sb)) :=
  wkE (pe_cmpR ho ha hb hm) fun σ H Q h => two_ops hg h
theorem d_tcmp {op : CmpOp} {r : R2} {g : List D → Option D} (ho : OpR X (compareOp op) r) (hg : PSem (GK X ex) (r2L r) g) (ha : DO (GK X ex) X W a sa) (hb : DO (GK X ex) X W b sb) (hm : behindInMarks op b = false) : DT (GK X ex) X W (.Compare a [op] [b] pos) (sTst (sOps g (b2 sa sb))) :=
  wkT (pt_cmpR ho ha hb hm) fun σ H Q h => two_ops hg (tst_core h)
/-- a op1 b op2 c; b is a value that is looked at once -/
def sChain (g g' : List D → Option D) (sa sb sc : SO) : SE := fun ρ => (sa ρ).bind fun x ρ1 => (sb ρ1).bind fun y ρ2 => (ofO ((getAll ρ2 [x, y]).bind g) ρ2).bind fun z ρ2 => match z with
  | .bl true => (sc ρ2).bind fun w ρ3 => ofO ((getAll ρ3 [y, w]).bind g') ρ3
  | .bl false => .ok (.bl false) ρ2
  | _ => .stuck
theorem chain_core {G : Gx} {r r' : R2} {g g' : List D → Option D} (hg : PSem G (r2L r) g) (hg' : PSem G (r2L r') g') {Q : VK} (h : tE G W (sChain g g' sa sb sc) σ H Q) : tChain r r' (tO G W sa) (tO G W sb) (tO G W sc) σ H Q := by
  obtain ⟨ρ, F, Rv, io, rel, q⟩ := h
  refine ⟨ρ, F, Rv, io, rel, ?_⟩
  unfold sChain at q
  cases e : sa ρ with
  | stuck => rw [e] at q; exact q.elim
  | exc x ρ' => rw [e] at q; exact q
  | ok x ρ1 =>
    rw [e, R.bind_ok] at q
    refine fun v H1 F1 le1 rel1 ok1 => ⟨ρ1, F1, Rv, io, rel1, ?_⟩
    cases e2 : sb ρ1 with
    | stuck => rw [e2] at q; exact q.elim
    | exc x ρ' => rw [e2] at q; exact XPost.le q le1
    | ok y ρ2 =>
      rw [e2, R.bind_ok] at q
      refine fun w H2 F2 le2 rel2 ok2 => ?_
      cases e3 : getAll ρ2 [x, y] with
      | none => rw [e3] at q; exact q.elim
      | some ds =>
        rw [e3, Option.bind_some] at q
        cases e4 : g ds with
        | none => rw [e4] at q; exact q.elim
        | some z =>
          rw [e4] at q
          have vw := rel2.views (.cons (ok1.mono le2) (.cons ok2 .nil)) e3
          obtain ⟨_, _, e5, z5⟩ := hg F2 H2 [v, w] ds z (fun zv H3 => ∃ k, zv = .bl k ∧ if k = true then tO G W sc σ H3 (fun w' H4 => r' w w' H4 Q) else Q (.bl false) H3) rel2.fH vw e4 (by
            intro zv H3 F3 n rp
            cases z with
            | bl k =>
              cases rp
              refine ⟨k, rfl, ?_⟩
              have rel3 := rel2.after n
              cases k with
              | false => exact iteF (q _ H3 F3 ((le1.trans le2).trans n.f) rel3 (.bl false))
              | true =>
                refine iteT ⟨ρ2, F3, Rv, io, rel3, ?_⟩
                simp only [ofO, R.bind_ok] at q
                cases e6 : sc ρ2 with
                | stuck => rw [e6] at q; exact q.elim
                | exc x ρ' => rw [e6] at q; exact XPost.le q ((le1.trans le2).trans n.f)
                | ok u ρ3 =>
                  rw [e6, R.bind_ok] at q
                  refine fun w' H4 F4 le4 rel4 ok4 => ?_
                  cases e7 : getAll ρ3 [y, u] with
                  | none => rw [e7] at q; exact q.elim
                  | some ds' =>
                    rw [e7, Option.bind_some] at q
                    cases e8 : g' ds' with
                    | none => rw [e8] at q; exact q.elim
                    | some z' =>
                      rw [e8] at q
                      have vw' := rel4.views (.cons (ok2.mono (n.f.trans le4)) (.cons ok4 .nil)) e7
                      obtain ⟨_, _, e9, z9⟩ := hg' F4 H4 [w, w'] ds' z' Q rel4.fH vw' e8 fun zv H5 F5 n5 rp5 => q zv H5 F5 ((((le1.trans le2).trans n.f).trans le4).trans n5.f) (rel4.after n5) rp5
                      cases e9; exact z9
            | _ => exact q.elim)
          cases e5; exact z5
theorem d_chain {op op' : CmpOp} {r r' : R2} {g g' : List D → Option D} (ho : OpR X (compareOp op) r) (ho' : OpR X (compareOp op') r') (hg : PSem (GK X ex) (r2L r) g) (hg' : PSem (GK X ex) (r2L r') g') (ha : DO (GK X ex) X W a sa) (hb : DO (GK X ex) X W b sb) (hc : DO (GK X ex) X W c sc)
    (hm : lastMarks [op, op'] [b, c] = false := by with_unfolding_all rfl) : DE (GK X ex) X W (.Compare a [op, op'] [b, c] pos) (sChain g g' sa sb sc) :=
  wkE (pe_chain ho ho' ha hb hc hm) fun σ H Q h => chain_core hg hg' h
theorem d_tchain {op op' : CmpOp} {r r' : R2} {g g' : List D → Option D} (ho : OpR X (compareOp op) r) (ho' : OpR X (compareOp op') r') (hg : PSem (GK X ex) (r2L r) g) (hg' : PSem (GK X ex) (r2L r') g') (ha : DO (GK X ex) X W a sa) (hb : DO (GK X ex) X W b sb) (hc : DO (GK X ex) X W c sc)
    (hm : lastMarks [op, op'] [b, c] = false := by with_unfolding_all rfl) : DT (GK X ex) X W (.Compare a [op, op'] [b, c] pos) (sTst (sChain g g' sa sb sc)) :=
  wkT (pt_chain ho ho' ha hb hc hm) fun σ H Q h => chain_core hg hg' (tst_core h)

/-! ### truth -/
def D.truth : D → Option Bool
  | .non => some false
  | .bl b => some b
  | .int i => some (i != 0)
  | .str s => if s.length ≤ sizeLine then some ((s.length : Int) != 0) else none
  | .tup xs => some (!xs.isEmpty)
  | .lst xs => some (!xs.isEmpty)
  | _ => none
theorem isEmpty_rps {F : Hp} {vs : List V} {ds : List D} (r : Rps K F vs ds) : vs.isEmpty = ds.isEmpty := by cases r <;> rfl
theorem Vw.truth {F : Hp} {v : V} {d : D} {k : Bool} (fh : FLe F H) (h : Vw K F H v d) (e : d.truth = some k) : TruV K v H k := by
  cases d with
  | non => cases e; have := h.non; subst this; rfl
  | bl b => cases e; have := h.bl; subst this; rfl
  | int i => cases e; have := h.int; subst this; rfl
  | str z =>
    simp only [D.truth] at e
    split at e
    · rename_i hz; cases e; have := h.str; subst this; exact ⟨hz, rfl⟩
    · cases e
  | tup xs => cases e; obtain ⟨a, zs, rfl, t, r⟩ := h.sqT fh; exact .inr (.inl ⟨zs, t, by rw [isEmpty_rps r]⟩)
  | lst xs => cases e; obtain ⟨a, zs, rfl, t, r⟩ := h.lst fh; exact .inl ⟨zs, SqL.of t, by rw [isEmpty_rps r]⟩
  | _ => simp only [D.truth] at e; cases e
def sTru (s : SO) : ST := fun ρ => (s ρ).bind fun o ρ' => ofO ((o.get ρ').bind D.truth) ρ'
theorem tru_core {G : Gx} {s : SO} {Q : Bool → Hp → Prop} (h : tT G W (sTru s) σ H Q) : tO G W s σ H fun x H' => ∃ k, TruV G.K x H' k ∧ Q k H' := by
  obtain ⟨ρ, F, Rv, io, rel, q⟩ := h
  refine ⟨ρ, F, Rv, io, rel, ?_⟩
  unfold sTru at q
  cases e : s ρ with
  | stuck => rw [e] at q; exact q.elim
  | exc x ρ' => rw [e] at q; exact q
  | ok o ρ' =>
    rw [e, R.bind_ok] at q
    intro v H' F' le rel' ok
    cases e1 : o.get ρ' with
    | none => rw [e1] at q; exact q.elim
    | some d =>
      rw [e1, Option.bind_some] at q
      cases e2 : d.truth with
      | none => rw [e2] at q; exact q.elim
      | some k => rw [e2] at q; exact ⟨k, (rel'.view ok e1).truth rel'.fH e2, q H' F' le rel'⟩
/-- any expression as a test, by its truth -/
theorem d_tru (ha : DO (GK X ex) X W a sa) (he : ∀ whole, isTrue a X.env whole = (do let v ← whole; standAt a.pos; holding [v] (truthy v)) := by intro _; rfl) : DT (GK X ex) X W a (sTru sa) :=
  wkT (pt_truth ha he) fun σ H Q h => tru_core h

/-! ### and, or, not -/
def tAndS (s t : ST) : ST := fun ρ => (s ρ).bind fun k ρ' => match k with
  | true => t ρ'
  | false => .ok false ρ'
def tOrS (s t : ST) : ST := fun ρ => (s ρ).bind fun k ρ' => match k with
  | true => .ok true ρ'
  | false => t ρ'
def tNotS (s : ST) : ST := fun ρ => (s ρ).bind fun k ρ' => .ok (!k) ρ'
abbrev DW (G : Gx) (X : Cx) (W : WX) (e : Expr) (s : ST) : Prop := PW X e (tT G W s)
theorem wkW {X : Cx} {e : Expr} {t u : TT} (h : PW X e t) (w : ∀ σ H Q, u σ H Q → t σ H Q) : PW X e u := ⟨fun wh pins s σ H Q I q => h.run wh pins s σ H Q I (w σ H Q q)⟩
theorem and_core {G : Gx} {s t : ST} {Q : Bool → Hp → Prop} (h : tT G W (tAndS s t) σ H Q) : tAnd (tT G W s) (tT G W t) σ H Q := by
  obtain ⟨ρ, F, Rv, io, rel, q⟩ := h
  refine ⟨ρ, F, Rv, io, rel, ?_⟩
  unfold tAndS at q
  cases e : s ρ with
  | stuck => rw [e] at q; exact q.elim
  | exc x ρ' => rw [e] at q; exact q
  | ok k ρ' =>
    rw [e, R.bind_ok] at q
    intro H' F' le rel'
    cases k with
    | false => exact iteF (q H' F' le rel')
    | true =>
      refine iteT ⟨ρ', F', Rv, io, rel', ?_⟩
      revert q
      show (match t ρ' with | .ok b ρ'' => _ | .exc x ρ'' => _ | .stuck => False) → _
      cases t ρ' with
      | stuck => exact fun q => q
      | exc x ρ'' => exact fun q => XPost.le q le
      | ok k2 ρ'' => exact fun q H2 F2 le2 rel2 => q H2 F2 (le.trans le2) rel2
theorem or_core {G : Gx} {s t : ST} {Q : Bool → Hp → Prop} (h : tT G W (tOrS s t) σ H Q) : tOr (tT G W s) (tT G W t) σ H Q := by
  obtain ⟨ρ, F, Rv, io, rel, q⟩ := h
  refine ⟨ρ, F, Rv, io, rel, ?_⟩
  unfold tOrS at q
  cases e : s ρ with
  | stuck => rw [e] at q; exact q.elim
  | exc x ρ' => rw [e] at q; exact q
  | ok k ρ' =>
    rw [e, R.bind_ok] at q
    intro H' F' le rel'
    cases k with
    | true => exact iteT (q H' F' le rel')
    | false =>
      refine iteF ⟨ρ', F', Rv, io, rel', ?_⟩
      revert q
      show (match t ρ' with | .ok b ρ'' => _ | .exc x ρ'' => _ | .stuck => False) → _
      cases t ρ' with
      | stuck => exact fun q => q
      | exc x ρ'' => exact fun q => XPost.le q le
      | ok k2 ρ'' => exact fun q H2 F2 le2 rel2 => q H2 F2 (le.trans le2) rel2
variable {s t : ST} {rest : List Expr}
theorem d_wand1 (h : DT (GK X ex) X W a s) : DW (GK X ex) X W (.BoolOp .And [a] pos) s := pw_and1 h
theorem d_wor1 (h : DT (GK X ex) X W a s) : DW (GK X ex) X W (.BoolOp .Or [a] pos) s := pw_or1 h
theorem d_wand (h : DT (GK X ex) X W a s) (h2 : DW (GK X ex) X W (.BoolOp .And (b :: rest) pos) t) : DW (GK X ex) X W (.BoolOp .And (a :: b :: rest) pos) (tAndS s t) := wkW (pw_and h h2) fun σ H Q q => and_core q
theorem d_wor (h : DT (GK X ex) X W a s) (h2 : DW (GK X ex) X W (.BoolOp .Or (b :: rest) pos) t) : DW (GK X ex) X W (.BoolOp .Or (a :: b :: rest) pos) (tOrS s t) := wkW (pw_or h h2) fun σ H Q q => or_core q
theorem d_tnot (h : DT (GK X ex) X W a s) : DT (GK X ex) X W (.UnaryOp .Not a pos) (tNotS s) := wkT (pt_not h) fun σ H Q q => by
  obtain ⟨ρ, F, Rv, io, rel, q⟩ := q
  refine ⟨ρ, F, Rv, io, rel, ?_⟩
  unfold tNotS at q
  cases e : s ρ with
  | stuck => rw [e] at q; exact q.elim
  | exc x ρ' => rw [e] at q; exact q
  | ok k ρ' => rw [e] at q; exact q
/-- .. as values: by truth -/
def sAnd (s t : SE) : SE := fun ρ => (s ρ).bind fun d ρ' => match d.truth with
  | some true => t ρ'
  | some false => .ok d ρ'
  | none => .stuck
def sOr (s t : SE) : SE := fun ρ => (s ρ).bind fun d ρ' => match d.truth with
  | some true => .ok d ρ'
  | some false => t ρ'
  | none => .stuck
def sNot (s : SO) : SE := fun ρ => (sTru s ρ).bind fun k ρ' => .ok (.bl (!k)) ρ'
variable {ea eb : SE}
theorem d_one {op} (h : DE (GK X ex) X W a ea) : DE (GK X ex) X W (.BoolOp op [a] pos) ea := pe_one h
theorem d_and (ha : DE (GK X ex) X W a ea) (hb : DE (GK X ex) X W (.BoolOp .And (b :: rest) pos) eb) : DE (GK X ex) X W (.BoolOp .And (a :: b :: rest) pos) (sAnd ea eb) := wkE (pe_andT ha hb) fun σ H Q h => by
  obtain ⟨ρ, F, Rv, io, rel, q⟩ := h
  refine ⟨ρ, F, Rv, io, rel, ?_⟩
  unfold sAnd at q
  cases e : ea ρ with
  | stuck => rw [e] at q; exact q.elim
  | exc x ρ' => rw [e] at q; exact q
  | ok d ρ' =>
    rw [e, R.bind_ok] at q
    intro v H' F' le rel' rp
    cases e2 : d.truth with
    | none => rw [e2] at q; exact q.elim
    | some k =>
      rw [e2] at q
      refine ⟨k, Vw.truth rel'.fH (.inl rp) e2, ?_⟩
      cases k with
      | false => exact iteF (q v H' F' le rel' rp)
      | true =>
        refine iteT ⟨ρ', F', Rv, io, rel', ?_⟩
        revert q
        show (match eb ρ' with | .ok b ρ'' => _ | .exc x ρ'' => _ | .stuck => False) → _
        cases eb ρ' with
        | stuck => exact fun q => q
        | exc x ρ'' => exact fun q => XPost.le q le
        | ok k2 ρ'' => exact fun q => EPost.le q le
theorem d_or (ha : DE (GK X ex) X W a ea) (hb : DE (GK X ex) X W (.BoolOp .Or (b :: rest) pos) eb) : DE (GK X ex) X W (.BoolOp .Or (a :: b :: rest) pos) (sOr ea eb) := wkE (pe_orT ha hb) fun σ H Q h => by
  obtain ⟨ρ, F, Rv, io, rel, q⟩ := h
  refine ⟨ρ, F, Rv, io, rel, ?_⟩
  unfold sOr at q
  cases e : ea ρ with
  | stuck => rw [e] at q; exact q.elim
  | exc x ρ' => rw [e] at q; exact q
  | ok d ρ' =>
    rw [e, R.bind_ok] at q
    intro v H' F' le rel' rp
    cases e2 : d.truth with
    | none => rw [e2] at q; exact q.elim
    | some k =>
      rw [e2] at q
      refine ⟨k, Vw.truth rel'.fH (.inl rp) e2, ?_⟩
      cases k with
      | true => exact iteT (q v H' F' le rel' rp)
      | false =>
        refine iteF ⟨ρ', F', Rv, io, rel', ?_⟩
        revert q
        show (match eb ρ' with | .ok b ρ'' => _ | .exc x ρ'' => _ | .stuck => False) → _
        cases eb ρ' with
        | stuck => exact fun q => q
        | exc x ρ'' => exact fun q => XPost.le q le
        | ok k2 ρ'' => exact fun q => EPost.le q le
theorem d_not (ha : DO (GK X ex) X W a sa) : DE (GK X ex) X W (.UnaryOp .Not a pos) (sNot sa) := wkE (pe_notT ha) fun σ H Q h => by
  refine tru_core (Q := fun k H1 => Q (.bl (!k)) H1) ?_
  obtain ⟨ρ, F, Rv, io, rel, q⟩ := h
  refine ⟨ρ, F, Rv, io, rel, ?_⟩
  unfold sNot at q
  cases e : sTru sa ρ with
  | stuck => rw [e] at q; exact q.elim
  | exc x ρ' => rw [e] at q; exact q
  | ok d ρ' => rw [e] at q; exact fun H' F' le rel' => q _ H' F' le rel' (.bl _)
/-- not e, e itself a test -/
def sNotT (s : ST) : SE := fun ρ => (s ρ).bind fun k ρ' => .ok (.bl (!k)) ρ'
/-- a if t else b -/
def sIf (t : ST) (a b : SE) : SE := fun ρ => (t ρ).bind fun k ρ' => match k with
  | true => a ρ'
  | false => b ρ'
theorem d_if (hc : DT (GK X ex) X W c t) (ha : DE (GK X ex) X W a ea) (hb : DE (GK X ex) X W b eb) : DE (GK X ex) X W (.IfExp c a b pos) (sIf t ea eb) := wkE (pe_ifExp hc ha hb) fun σ H Q h => by
  obtain ⟨ρ, F, Rv, io, rel, q⟩ := h
  refine ⟨ρ, F, Rv, io, rel, ?_⟩
  unfold sIf at q
  cases e : t ρ with
  | stuck => rw [e] at q; exact q.elim
  | exc x ρ' => rw [e] at q; exact q
  | ok k ρ' =>
    rw [e, R.bind_ok] at q
    intro H' F' le rel'
    cases k with
    | true =>
      refine iteT ⟨ρ', F', Rv, io, rel', ?_⟩
      revert q
      show (match ea ρ' with | .ok b ρ'' => _ | .exc x ρ'' => _ | .stuck => False) → _
      cases ea ρ' with
      | stuck => exact fun q => q
      | exc x ρ'' => exact fun q => XPost.le q le
      | ok k2 ρ'' => exact fun q => EPost.le q le
    | false =>
      refine iteF ⟨ρ', F', Rv, io, rel', ?_⟩
      revert q
      show (match eb ρ' with | .ok b ρ'' => _ | .exc x ρ'' => _ | .stuck => False) → _
      cases eb ρ' with
      | stuck => exact fun q => q
      | exc x ρ'' => exact fun q => XPost.le q le
      | ok k2 ρ'' => exact fun q => EPost.le q le
end
end Dt

set_option Elab.async false
set_option linter.all false
set_option maxRecDepth 100000
set_option maxHeartbeats 2000000
/-! The judgements' rules: subscripts, slices, displays, built-in functions, isinstance, walks, comprehensions. -/
namespace Dt
open PySem PySem.Spec PyProof.Rows L2

section
variable {ex : Exx} {X : Cx} {W : WX} {σ : L2.St} {H : Hp} {a b c e : Expr} {es : List Expr} {pos p : Pos} {sa sb sc : SO} {ea eb : SE} {sB : SB} {sA : SA} {x : Str} {id : String}

/-! ### subscripts -/
theorem ix_dct {X : Cx} (hu : X.A.units + 64 < cLine) : IxR X (fun x y H Q => ∃ a v, x = .ref a ∧ DGet H a y (some v) ∧ Q v H) := by
  intro value slice pins s σ H x y v u Q I rx ry h hs
  obtain ⟨a, w, rfl, g, q⟩ := h
  obtain rfl : v = Value.ref a := rx
  exact tail_any (ops := [.ref a, u]) (dict_typeIs I g) PySem.F.slot_dict_getitem.lookup (d_getItem (by omega) I g ry fun w' s3 I3 rw' => ⟨w, H, I3, rw', q⟩) hs
theorem d_idx (hu : At X W) (ha : DO (GK X ex) X W a sa) (hb : DO (GK X ex) X W b sb) (hs : PlainIx b := by intro _ _; rfl) : DE (GK X ex) X W (.Subscript a b pos) (sOps gIdx (b2 sa sb)) :=
  wkE (pe_ix (ix_seq.or (ix_dct hu.un)) ha hb hs) fun σ H Q h => two_ops (r := rIxA X.K) psem_idx h
/-- a part of a slice -/
abbrev SP' := Env → R (Option Int)
def tP (G : Gx) (W : WX) (s : SP') : TO := fun σ H Q => ∃ ρ F Rv, ∃ io : Io G.ex.tabs, Rel G.K io Rv ρ F σ H ∧ match s ρ with
  | .ok b ρ' => ∀ H' F', FLe F F' → Rel G.K io Rv ρ' F' σ H' → Q b H'
  | .exc x ρ' => XPost G W io Rv F ρ' x
  | .stuck => False
def sPn : SP' := fun ρ => .ok none ρ
def sPe (s : SE) : SP' := fun ρ => (s ρ).bind fun d ρ' => match d with
  | .int i => .ok (some i) ρ'
  | _ => .stuck
abbrev DP (G : Gx) (X : Cx) (W : WX) (e : Option Expr) (s : SP') : Prop := PO X e (tP G W s)
theorem wkP {X : Cx} {e : Option Expr} {t u : TO} (h : PO X e t) (w : ∀ σ H Q, u σ H Q → t σ H Q) : PO X e u := ⟨fun pins s σ H Q I q => h.run pins s σ H Q I (w σ H Q q)⟩
theorem d_pn : DP (GK X ex) X W none sPn := wkP po_none fun σ H Q ⟨ρ, F, Rv, io, rel, q⟩ => q H F (FLe.refl F) rel
theorem d_pe (h : DE (GK X ex) X W e ea) : DP (GK X ex) X W (some e) (sPe ea) := wkP (po_some h) fun σ H Q ⟨ρ, F, Rv, io, rel, q⟩ => by
  refine ⟨ρ, F, Rv, io, rel, ?_⟩
  unfold sPe at q
  cases e : ea ρ with
  | stuck => rw [e] at q; exact q.elim
  | exc x ρ' => rw [e] at q; exact q
  | ok d ρ' =>
    rw [e, R.bind_ok] at q
    cases d with
    | int i => intro v H' F' le rel' rp; cases rp; exact ⟨i, rfl, q H' F' le rel'⟩
    | _ => exact q.elim
def sSlice (s : SO) (lo hi : SP') : SE := fun ρ => (s ρ).bind fun o ρ1 => (lo ρ1).bind fun l ρ2 => (hi ρ2).bind fun h ρ3 => ofO ((o.get ρ3).bind fun d => sliceD d l h) ρ3
theorem d_slice {lo hi : Option Expr} {sl sh : SP'} {p2 : Pos} (ha : DO (GK X ex) X W a sa) (hl : DP (GK X ex) X W lo sl) (hh : DP (GK X ex) X W hi sh) : DE (GK X ex) X W (.Subscript a (.Slice lo hi none p2) pos) (sSlice sa sl sh) :=
  wkE (pe_slice sl_all ha hl hh) fun σ H Q ⟨ρ, F, Rv, io, rel, q⟩ => by
    refine ⟨ρ, F, Rv, io, rel, ?_⟩
    unfold sSlice at q
    cases e : sa ρ with
    | stuck => rw [e] at q; exact q.elim
    | exc x ρ' => rw [e] at q; exact q
    | ok o ρ1 =>
      rw [e, R.bind_ok] at q
      refine fun v H1 F1 le1 rel1 ok1 => ⟨ρ1, F1, Rv, io, rel1, ?_⟩
      cases e2 : sl ρ1 with
      | stuck => rw [e2] at q; exact q.elim
      | exc x ρ' => rw [e2] at q; exact XPost.le q le1
      | ok l ρ2 =>
        rw [e2, R.bind_ok] at q
        refine fun H2 F2 le2 rel2 => ⟨ρ2, F2, Rv, io, rel2, ?_⟩
        cases e3 : sh ρ2 with
        | stuck => rw [e3] at q; exact q.elim
        | exc x ρ' => rw [e3] at q; exact XPost.le q (le1.trans le2)
        | ok h ρ3 =>
          rw [e3, R.bind_ok] at q
          refine fun H3 F3 le3 rel3 => ?_
          cases e4 : o.get ρ3 with
          | none => rw [e4] at q; exact q.elim
          | some d =>
            rw [e4, Option.bind_some] at q
            cases e5 : sliceD d l h with
            | none => rw [e5] at q; exact q.elim
            | some z =>
              rw [e5] at q
              exact slice_vw (G := GK X ex) rel3.fH (rel3.view (G := GK X ex) (ok1.mono (le2.trans le3)) e4) e5 fun w H4 F4 n rp => q w H4 F4 (((le1.trans le2).trans le3).trans n.f) (rel3.after n) rp
/-- xs[::-1]: a new list -/
def sRev (s : SO) : SE := fun ρ => (s ρ).bind fun o ρ' => match o.get ρ' with
  | some (.lst xs) => .ok (.lst xs.reverse) ρ'
  | _ => .stuck
theorem d_revF {k : Nat} {p1 p2 p3 : Pos} (ha : DO (GK X ex) X W a sa) : DF (GK X ex) X W (.Subscript a (.Slice none none (some (.UnaryOp .USub (.Constant (.int 1) k p1) p2)) p3) pos) (sRev sa) :=
  wkE (pe_revL ha) fun σ H Q ⟨ρ, F, Rv, io, rel, q⟩ => by
    refine ⟨ρ, F, Rv, io, rel, ?_⟩
    unfold sRev at q
    cases e : sa ρ with
    | stuck => rw [e] at q; exact q.elim
    | exc x ρ' => rw [e] at q; exact q
    | ok o ρ1 =>
      rw [e, R.bind_ok] at q
      refine fun v H1 F1 le1 rel1 ok1 => ?_
      cases e4 : o.get ρ1 with
      | none => rw [e4] at q; exact q.elim
      | some d =>
        rw [e4] at q
        cases d with
        | lst xs =>
          obtain ⟨a, zs, rfl, t, r⟩ := (rel1.view (G := GK X ex) ok1 e4).lst rel1.fH
          refine ⟨a, zs, rfl, SqL.of t, fun p hp => q p _ F1 le1 (rel1.newH hp _) ⟨rel1.fH.noneOf hp, rel1.rH.noneOf hp, _, upd_same, _, rfl, r.reverse⟩ (rel1.loose hp)⟩
        | _ => exact q.elim

/-! ### displays; new objects frozen -/
theorem d_fz (h : DF (GK X ex) X W e ea) : DE (GK X ex) X W e ea := wkE (pe_lk h) fun σ H Q ⟨ρ, F, Rv, io, rel, q⟩ => by
  refine ⟨ρ, F, Rv, io, rel, ?_⟩
  revert q
  cases ea ρ with
  | stuck => exact fun q => q
  | exc x ρ' => exact fun q => q
  | ok d ρ' =>
    intro q p H' F' le rel' ow lo
    obtain ⟨o, h1, h2⟩ := ow.at_
    refine .inr ⟨p, o, rfl, h1, h2.lkb, fun od => ?_⟩
    have le2 := FLe.upd (p := p) (lk od o) ow.nF
    have nR : ∀ a u, Rv a = some u → a ≠ p := fun a u e z => by subst z; rw [ow.nR] at e; cases e
    refine q _ (upd H' p (lk od o)) (upd F' p (lk od o)) (le.trans le2) ⟨fun a u e => ?_, fun a u e => by rw [upd_ne (nR a u e)]; exact rel'.rH a u e, fun a u e => ?_, rel'.len, fun i c v e1 e2 => ?_, rel'.inj, rel'.ios, rel'.ioc, fun t ht => let q := rel'.tab t ht; let ⟨ps, ep⟩ := q.tbl; q.mv (by rw [upd_ne (own_ne ow ep)]; exact q.1) q.2.1 (fun ps e => by rw [upd_ne (own_ne ow e)]; exact e) le2 q.nR, rel'.nt.upd (h2.nt od).2⟩ ((h2.mono le2).rp upd_same)
    · by_cases z : a = p
      · subst z; rw [upd_same] at e; cases e; exact upd_same
      · rw [upd_ne z] at e; rw [upd_ne z]; exact rel'.fH a u e
    · by_cases z : a = p
      · subst z; exact ow.nR
      · rw [upd_ne z] at e; exact rel'.dj a u e
    · have q := rel'.cell i c v e1 e2
      have keep : ∀ {p' d'}, c.held = some d' → v = some (.ref p') → OwnAt X.K F' Rv H' p' d' → OwnAt X.K (upd F' p (lk od o)) Rv (upd H' p (lk od o)) p' d' := fun {p' d'} h3 h4 w => by
        obtain ⟨o', e, q3⟩ := w.at_
        have ne : p' ≠ p := by intro z; subst z; subst h4; exact lo i c d' e1 h3 e2
        exact ⟨by rw [upd_ne ne]; exact w.nF, w.nR, o', by rw [upd_ne ne]; exact e, q3.mono le2⟩
      cases c with
      | no => trivial
      | fro d' => obtain ⟨y, e, q⟩ := q; exact ⟨y, e, q.mono le2⟩
      | own d' => obtain ⟨p', e, q⟩ := q; exact ⟨p', e, keep rfl e q⟩
      | io d' => obtain ⟨p', e, q⟩ := q; exact ⟨p', e, keep rfl e q⟩
def sTup (s : SA) : SE := fun ρ => (s ρ).bind fun ds ρ' => if ds.length ≤ sizeLine then .ok (.tup ds) ρ' else .stuck
def sLst (s : SA) : SE := fun ρ => (s ρ).bind fun ds ρ' => if ds.length ≤ sizeLine then .ok (.lst ds) ρ' else .stuck
theorem d_tup {k : Nat} (h : DA (GK X ex) X W es sA) : DE (GK X ex) X W (.Tuple es k pos) (sTup sA) := wkE (pe_tupZ h) fun σ H Q ⟨ρ, F, Rv, io, rel, q⟩ => by
  refine ⟨ρ, F, Rv, io, rel, ?_⟩
  unfold sTup at q
  cases e : sA ρ with
  | stuck => rw [e] at q; exact q.elim
  | exc x ρ' => rw [e] at q; exact q
  | ok ds ρ' =>
    rw [e, R.bind_ok] at q
    intro vs H' F' le rel' r
    by_cases hz : ds.length ≤ sizeLine
    · rw [if_pos hz] at q
      exact ⟨by rw [r.length]; exact hz, fun p o hp ho => q _ _ _ (le.trans (FLe.upd _ (rel'.fH.noneOf hp))) (rel'.new hp _) (.tup (.new ho) (r.mono (FLe.upd _ (rel'.fH.noneOf hp))))⟩
    · rw [if_neg hz] at q; exact q.elim
theorem d_lstF (h : DA (GK X ex) X W es sA) : DF (GK X ex) X W (.List es pos) (sLst sA) := wkE (pe_lst h) fun σ H Q ⟨ρ, F, Rv, io, rel, q⟩ => by
  refine ⟨ρ, F, Rv, io, rel, ?_⟩
  unfold sLst at q
  cases e : sA ρ with
  | stuck => rw [e] at q; exact q.elim
  | exc x ρ' => rw [e] at q; exact q
  | ok ds ρ' =>
    rw [e, R.bind_ok] at q
    intro vs H' F' le rel' r
    by_cases hz : ds.length ≤ sizeLine
    · rw [if_pos hz] at q
      exact ⟨by rw [r.length]; exact hz, fun p hp => q p _ F' le (rel'.newH hp _) ⟨rel'.fH.noneOf hp, rel'.rH.noneOf hp, _, upd_same, _, rfl, r⟩ (rel'.loose hp)⟩
    · rw [if_neg hz] at q; exact q.elim
theorem d_lst (h : DA (GK X ex) X W es sA) : DE (GK X ex) X W (.List es pos) (sLst sA) := d_fz (d_lstF h)
/-- {}: keys will be ints and texts -/
theorem d_dctF : DF (GK X ex) X W (.Dict [] [] pos) (sCst (.dct [] [])) := wkE pe_dnewK fun σ H Q ⟨ρ, F, Rv, io, rel, q⟩ =>
  fun p hp => q p _ F (FLe.refl F) (rel.newH hp _) ⟨rel.fH.noneOf hp, rel.rH.noneOf hp, _, upd_same, [], rfl, rfl, .nil⟩ (rel.loose hp)

/-! ### built-in functions -/
theorem d_callB {r : RL} {g : List D → Option D} (hc : CallR X (.builtin id) r) (hG : PSem (GK X ex) r g) (hg : Gl X x) (hm : X.mg x = none) (ha : DB (GK X ex) X W (e :: es) sB) (hv : bootBuiltins x = some (.builtin id) := by decide +kernel) (hn : x ≠ "__name__" := by decide) (hdb : (x == ("__debug__" : Str)) = false := by decide)
    (he : starEach (e :: es) X.env = (false, eval e X.env) :: starEach es X.env := by rfl) (hpl : (backTo pos (starEach es X.env)).any (·.1) = false := by rfl) : DE (GK X ex) X W (.Call (.Name x p) (e :: es) [] pos) (sOps g sB) :=
  wkE (pe_callB hc hg hm hv ha hn hdb he hpl) fun σ H Q h => ops_core hG h
theorem d_callTy {r : RL} {g : List D → Option D} (hc : CallR X (.type id) r) (hG : PSem (GK X ex) r g) (hg : Gl X x) (hm : X.mg x = none) (ha : DB (GK X ex) X W (e :: es) sB) (hv : bootBuiltins x = some (.type id) := by decide +kernel) (hn : x ≠ "__name__" := by decide) (hdb : (x == ("__debug__" : Str)) = false := by decide)
    (he : starEach (e :: es) X.env = (false, eval e X.env) :: starEach es X.env := by rfl) (hpl : (backTo pos (starEach es X.env)).any (·.1) = false := by rfl) : DE (GK X ex) X W (.Call (.Name x p) (e :: es) [] pos) (sOps g sB) :=
  wkE (pe_callTy hc hg hm hv ha hn hdb he hpl) fun σ H Q h => ops_core hG h
theorem d_callTyF {r : RL} {g : List D → Option D} (hc : CallR X (.type id) r) (hG : FSem (GK X ex) r g) (hg : Gl X x) (hm : X.mg x = none) (ha : DB (GK X ex) X W (e :: es) sB) (hv : bootBuiltins x = some (.type id) := by decide +kernel) (hn : x ≠ "__name__" := by decide) (hdb : (x == ("__debug__" : Str)) = false := by decide)
    (he : starEach (e :: es) X.env = (false, eval e X.env) :: starEach es X.env := by rfl) (hpl : (backTo pos (starEach es X.env)).any (·.1) = false := by rfl) : DF (GK X ex) X W (.Call (.Name x p) (e :: es) [] pos) (sOps g sB) :=
  wkE (pe_callTy hc hg hm hv ha hn hdb he hpl) fun σ H Q h => opsF_core hG h

/-! ### isinstance -/
/-- of a built-in type: bool is an int -/
def isTn (n t : String) : Bool := n == t || (t == "int" && n == "bool")
def isT (d : D) (t : String) : Bool := isTn (tyN d) t
def kindL : List String := ["int", "bool", "str", "tuple", "list", "dict"]
abbrev Kinds (t : String) : Prop := t ∈ kindL
theorem kit_all : ("NoneType" :: kindL).all (fun n => kindL.all fun t => kitB n t == some (isTn n t)) = true := by decide +kernel
theorem tyN_mem (d : D) : tyN d ∈ "NoneType" :: kindL := by cases d <;> simp [tyN, kindL]
theorem kit_isT {K : PySem.W.Frag} (d : D) {t : String} (h : Kinds t) : PySem.W.kitOne K (.type (tyN d)) (.type t) = some (isT d t) := by
  refine kit_ty ?_
  have z := List.all_eq_true.mp (List.all_eq_true.mp kit_all _ (tyN_mem d)) t h
  exact beq_iff_eq.mp z
def isTo (ts : List String) (d : D) : Option D := if d.isFn = true then none else some (.bl (ts.any (isT d)))
def sIsi (ts : List String) (s : SO) : SE := fun ρ => (s ρ).bind fun o ρ' => ofO ((o.get ρ').bind (isTo ts)) ρ'
theorem isi_core {G : Gx} {ts : List String} {Q : VK} (h : tE G W (sIsi ts sa) σ H Q) : tO G W sa σ H fun x H1 => ∃ F d, FLe F H1 ∧ Vw G.K F H1 x d ∧ d.isFn = false ∧ ∀ H2, FLe H1 H2 → Q (.bl (ts.any (isT d))) H2 := by
  obtain ⟨ρ, F, Rv, io, rel, q⟩ := h
  refine ⟨ρ, F, Rv, io, rel, ?_⟩
  unfold sIsi at q
  cases e : sa ρ with
  | stuck => rw [e] at q; exact q.elim
  | exc x ρ' => rw [e] at q; exact q
  | ok o ρ' =>
    rw [e, R.bind_ok] at q
    intro v H' F' le rel' ok
    cases e1 : o.get ρ' with
    | none => rw [e1] at q; exact q.elim
    | some d =>
      rw [e1, Option.bind_some] at q
      unfold isTo at q
      cases hd : d.isFn with
      | true => rw [if_pos hd] at q; exact q.elim
      | false =>
      rw [if_neg (by rw [hd]; decide)] at q
      exact ⟨F', d, rel'.fH, rel'.view ok e1, hd, fun H2 h2 => q _ H2 F' le (rel'.grow (FLe.refl _) h2 (rel'.fH.trans h2) (fun _ _ e => .inl e) rel'.nt) (.bl _)⟩
theorem isi_gl (hg : Gl X "isinstance") (hm : X.mg "isinstance" = none) {t : TA} {r : RL} {e2 : Expr} (hc : CallR X (.builtin "isinstance") r) (ha : PA X (a :: e2 :: []) t) (he : starEach (a :: e2 :: []) X.env = (false, eval a X.env) :: starEach (e2 :: []) X.env) (hpl : (backTo pos (starEach (e2 :: []) X.env)).any (·.1) = false) :
    PE X (.Call (.Name "isinstance" p) (a :: e2 :: []) [] pos) (tCB r t) := pe_callB hc hg hm (by decide +kernel) ha (by decide) (by decide) he hpl
theorem d_isi1 {t : Str} {ty : String} {q : Pos} (hg : Gl X "isinstance") (hm : X.mg "isinstance" = none) (ht : Kinds ty) (gt : Gl X t) (mt : X.mg t = none) (ha : DO (GK X ex) X W a sa) (hv : bootBuiltins t = some (.type ty) := by decide +kernel) (hn : t ≠ "__name__" := by decide) (hdb : (t == ("__debug__" : Str)) = false := by decide)
    (he : starEach (a :: (.Name t q) :: []) X.env = (false, eval a X.env) :: starEach ((.Name t q) :: []) X.env := by rfl) (hpl : (backTo pos (starEach ((.Name t q) :: []) X.env)).any (·.1) = false := by rfl) (hs2 : starEach ((.Name t q) :: []) X.env = (false, eval (.Name t q) X.env) :: starEach [] X.env := by rfl) :
    DE (GK X ex) X W (.Call (.Name "isinstance" p) (a :: (.Name t q) :: []) [] pos) (sIsi [ty] sa) :=
  wkE (isi_gl hg hm call_isi (pa_cons ha (pa_cons (pe_bltn (v := .ty ty) gt mt hv rfl hn hdb) pa_nil hs2) he) he hpl) fun σ H Q h =>
    tO_mono (isi_core h) fun x H1 ⟨F, d, fh, vw, hd, q⟩ => ⟨x, .ty ty, .type (tyN d), .type ty, isT d ty, rfl, .ty _, ty_vw fh vw hd, kit_isT d ht, by have z := q H1 (FLe.refl _); simpa using z⟩
theorem d_isi2 {t t' : Str} {ty ty' : String} {q q' q2 : Pos} {k : Nat} (hg : Gl X "isinstance") (hm : X.mg "isinstance" = none) (ht : Kinds ty) (ht' : Kinds ty') (gt : Gl X t) (mt : X.mg t = none) (gt' : Gl X t') (mt' : X.mg t' = none) (ha : DO (GK X ex) X W a sa)
    (hv : bootBuiltins t = some (.type ty) := by decide +kernel) (hn : t ≠ "__name__" := by decide) (hdb : (t == ("__debug__" : Str)) = false := by decide) (hv' : bootBuiltins t' = some (.type ty') := by decide +kernel) (hn' : t' ≠ "__name__" := by decide) (hdb' : (t' == ("__debug__" : Str)) = false := by decide)
    (he : starEach (a :: (.Tuple [.Name t q, .Name t' q'] k q2) :: []) X.env = (false, eval a X.env) :: starEach ((.Tuple [.Name t q, .Name t' q'] k q2) :: []) X.env := by rfl) (hpl : (backTo pos (starEach ((.Tuple [.Name t q, .Name t' q'] k q2) :: []) X.env)).any (·.1) = false := by rfl)
    (hs2 : starEach ((.Tuple [.Name t q, .Name t' q'] k q2) :: []) X.env = (false, eval (.Tuple [.Name t q, .Name t' q'] k q2) X.env) :: starEach [] X.env := by rfl)
    (hs3 : starEach (.Name t q :: [.Name t' q']) X.env = (false, eval (.Name t q) X.env) :: starEach [.Name t' q'] X.env := by rfl) (hs4 : starEach (.Name t' q' :: []) X.env = (false, eval (.Name t' q') X.env) :: starEach [] X.env := by rfl) :
    DE (GK X ex) X W (.Call (.Name "isinstance" p) (a :: (.Tuple [.Name t q, .Name t' q'] k q2) :: []) [] pos) (sIsi [ty, ty'] sa) :=
  wkE (isi_gl hg hm call_isiT (pa_cons ha (pa_cons (pe_tup (pa_cons (pe_bltn (v := .ty ty) gt mt hv rfl hn hdb) (pa_cons (pe_bltn (v := .ty ty') gt' mt' hv' rfl hn' hdb') pa_nil hs4) hs3)) pa_nil hs2) he) he hpl) fun σ H Q h =>
    tO_mono (isi_core h) fun x H1 ⟨F, d, fh, vw, hd, q⟩ => ⟨(by show 2 ≤ sizeLine; decide), fun pp hp => ⟨x, pp, [.ty ty, .ty ty'], .type (tyN d), [.type ty, .type ty'], [ty, ty'].any (isT d), rfl, upd_same, .cons (.ty _) (.cons (.ty _) .nil),
      (by
        have g := ty_vw (K := X.K) (fh.trans (FLe.upd (.tup [.ty ty, .ty ty']) hp)) (v := x) (d := d) (by
          rcases vw with z | ⟨p', o, e1, e2, e3⟩
          · exact .inl z
          · exact .inr ⟨p', o, e1, by rw [upd_ne (ne_of_none e2 hp)]; exact e2, e3⟩) hd
        exact g),
      (by
        have k1 := kit_isT (K := X.K) d ht
        have k2 := kit_isT (K := X.K) d ht'
        cases e1 : isT d ty <;> cases e2 : isT d ty' <;> rw [e1] at k1 <;> rw [e2] at k2
        · exact kitAny_cons k1 (fun _ => kitAny_cons k2 (fun _ => by simp [e1, e2, kitAny_nil]) (fun z => nomatch z)) (fun z => nomatch z)
        · exact kitAny_cons k1 (fun _ => kitAny_cons k2 (fun z => nomatch z) (fun _ => by simp [e1, e2])) (fun z => nomatch z)
        · exact kitAny_cons k1 (fun z => nomatch z) (fun _ => by simp [e1])
        · exact kitAny_cons k1 (fun z => nomatch z) (fun _ => by simp [e1])), q _ (FLe.upd _ hp)⟩⟩
end
end Dt

set_option Elab.async false
set_option linter.all false
set_option maxRecDepth 100000
set_option maxHeartbeats 2000000
/-! The judgements' rules: walks, targets, comprehensions, statements. -/
namespace Dt
open PySem PySem.Spec PyProof.Rows L2

/-- an iterator that gives these, whatever more there is -/
structure IterOk (K : PySem.W.Frag) (J : It) (F : Hp) (ds : List D) : Prop where
  go : ∀ (i : Nat) (F1 H : Hp), FLe F F1 → FLe F1 H → i < ds.length → J.go i H
  stop : ∀ (F1 H : Hp), FLe F F1 → FLe F1 H → J.stop ds.length H
  yld : ∀ (i : Nat) (F1 H H' : Hp) (x : V) (d : D), FLe F F1 → FLe F1 H → ds[i]? = some d → J.yld i H x H' → ∃ F2, New F1 H F2 H' ∧ Rp K F2 x d
def tI (G : Gx) (W : WX) (s : SA) : TI := fun σ H Q => ∃ ρ F Rv, ∃ io : Io G.ex.tabs, Rel G.K io Rv ρ F σ H ∧ match s ρ with
  | .ok ds ρ' => ∀ J H' F', FLe F F' → Rel G.K io Rv ρ' F' σ H' → IterOk G.K J F' ds → Q J H'
  | .exc x ρ' => XPost G W io Rv F ρ' x
  | .stuck => False
abbrev DI (G : Gx) (X : Cx) (W : WX) (tg e : Expr) (s : SA) : Prop := PI X tg e (tI G W s)
theorem wkI {X : Cx} {tg e : Expr} {t u : TI} (h : PI X tg e t) (w : ∀ σ H Q, u σ H Q → t σ H Q) : PI X tg e u := ⟨fun pins s σ H Q I q => h.run pins s σ H Q I (w σ H Q q)⟩

section
variable {K : PySem.W.Frag} {F : Hp}
theorem iter_lst {a : Addr} {xs : List V} {ds : List D} (t : F a = some (.lst xs)) (r : Rps K F xs ds) : IterOk K (Itl K a) F ds := by
  have at_ : ∀ {F1 H : Hp}, FLe F F1 → FLe F1 H → SqL K H a xs := fun h1 h2 => SqL.of (h2 _ _ (h1 _ _ t))
  refine ⟨fun i F1 H h1 h2 hi => ?_, fun F1 H h1 h2 => ⟨xs, at_ h1 h2, Nat.le_of_eq r.length⟩, fun i F1 H H' x d h1 h2 e y => ?_⟩
  · have hi' : i < xs.length := by rw [r.length]; exact hi
    exact ⟨xs, xs[i], at_ h1 h2, by simp [hi']⟩
  · obtain ⟨v, e1, rp⟩ := r.get e
    have e2 := y.2 xs (at_ h1 h2)
    rw [e1] at e2
    cases e2
    rw [y.1]
    exact ⟨F1, New.refl h2, rp.mono h1⟩
theorem iter_tup {a : Addr} {xs : List V} {ds : List D} (t : SqT K F a xs) (r : Rps K F xs ds) : IterOk K (Itt K a) F ds := by
  have at_ : ∀ {F1 H : Hp}, FLe F F1 → FLe F1 H → SqT K H a xs := fun h1 h2 => h2.sqT (h1.sqT t)
  refine ⟨fun i F1 H h1 h2 hi => ?_, fun F1 H h1 h2 => ⟨xs, at_ h1 h2, Nat.le_of_eq r.length⟩, fun i F1 H H' x d h1 h2 e y => ?_⟩
  · have hi' : i < xs.length := by rw [r.length]; exact hi
    exact ⟨xs, xs[i], at_ h1 h2, by simp [hi']⟩
  · obtain ⟨v, e1, rp⟩ := r.get e
    have e2 := y.2 xs (at_ h1 h2)
    rw [e1] at e2
    cases e2
    rw [y.1]
    exact ⟨F1, New.refl h2, rp.mono h1⟩
/-- a dict by its keys: it is locked -/
theorem iter_dct {a : Addr} {od : Obj} {kvs : List (Key × V)} (t : F a = some (.frz od (.dK kvs))) : IterOk K (Itk a od kvs) F ((kvs.map (·.1)).map keyD) := by
  have at_ : ∀ {F1 H : Hp}, FLe F F1 → FLe F1 H → H a = some (.frz od (.dK kvs)) := fun h1 h2 => h2 _ _ (h1 _ _ t)
  refine ⟨fun i F1 H h1 h2 hi => ⟨at_ h1 h2, by simpa using hi⟩, fun F1 H h1 h2 => ⟨at_ h1 h2, by simp⟩, fun i F1 H H' x d h1 h2 e y => ?_⟩
  obtain ⟨e1, k, v, e2, rfl⟩ := y
  rw [e1]
  refine ⟨F1, New.refl h2, ?_⟩
  rw [List.getElem?_map, List.getElem?_map, e2] at e
  cases e
  exact rp_key k
def signs (z : Str) : List D := z.cps.toList.map fun c => .str ⟨#[c]⟩
theorem iter_str {z : Str} : IterOk K (Its z) F (signs z) := by
  refine ⟨fun i F1 H h1 h2 hi => (show i < z.cps.size from by simpa [signs] using hi), fun F1 H h1 h2 => by simp [signs, Its], fun i F1 H H' x d h1 h2 e y => ?_⟩
  obtain ⟨e1, c, e2, rfl⟩ := y
  rw [e1]
  refine ⟨F1, New.refl h2, ?_⟩
  have e3 : z.cps.toList[i]? = some c := by simpa using e2
  unfold signs at e
  rw [List.getElem?_map, e3] at e
  cases e
  exact .str _
def upto (lo : Int) (n : Nat) : List D := (List.range n).map fun i => .int (lo + (i : Nat))
theorem iter_rng {lo : Int} {n : Nat} : IterOk K (Itr lo n) F (upto lo n) := by
  refine ⟨fun i F1 H h1 h2 hi => by simpa [upto, Itr] using hi, fun F1 H h1 h2 => by simp [upto, Itr], fun i F1 H H' x d h1 h2 e y => ?_⟩
  obtain ⟨e1, rfl⟩ := y
  rw [e1]
  refine ⟨F1, New.refl h2, ?_⟩
  unfold upto at e
  rw [List.getElem?_map] at e
  cases e2 : (List.range n)[i]? with
  | none => rw [e2] at e; cases e
  | some j =>
    rw [e2] at e
    have e3 : j = i := by
      rw [List.getElem?_range] at e2
      · cases e2; rfl
      · by_cases h : i < n
        · exact h
        · rw [List.getElem?_eq_none (by simp; omega)] at e2; cases e2
    subst e3
    cases e
    exact .int _
end

section
variable {ex : Exx} {X : Cx} {W : WX} {σ : L2.St} {H : Hp} {a b c e tg : Expr} {es : List Expr} {pos p : Pos} {sa sb sc : SO} {ea eb : SE} {sB : SB} {sA : SA} {x : Str} {id : String}
/-- a list, a tuple, a text, a locked dict -/
theorem pi_any (he : PE X e ta) : PI X tg e (fun σ H R => ta σ H fun x H1 => (∃ a xs, x = V.ref a ∧ SqL X.K H1 a xs ∧ R (Itl X.K a) H1) ∨ (∃ a xs, x = V.ref a ∧ SqT X.K H1 a xs ∧ R (Itt X.K a) H1) ∨ (∃ z, x = V.str z ∧ R (Its z) H1) ∨ ∃ a od kvs, x = V.ref a ∧ H1 a = some (.frz od (.dK kvs)) ∧ R (Itk a od kvs) H1) := by
  refine ⟨fun pins s σ H R I h => thn (he.run pins s σ H _ I h) fun v s1 ⟨x, H1, I1, r1, q1⟩ => ?_⟩
  rcases q1 with ⟨a, xs, rfl, hq, q⟩ | ⟨a, xs, rfl, hq, q⟩ | ⟨z, rfl, q⟩ | ⟨a, od, kvs, rfl, hd, q⟩
  · obtain rfl : v = Value.ref a := r1
    obtain ⟨its, _, pl, _⟩ := I1.list hq
    exact wpAny_pyIter_list pl.isList (pi_one (tk := s1.toks) I1 _ (turn_list a _) ⟨_, Heap.get?_push_size _ rfl, rfl, rfl⟩ q)
  · obtain rfl : v = Value.ref a := r1
    obtain ⟨its, _, pl, _⟩ := I1.tuple hq
    exact wpAny_pyIter_tuple (show s1.heap.IsTuple a its.toArray from pl) (pi_one (tk := s1.toks) I1 _ (turn_tuple a _) ⟨_, Heap.get?_push_size _ rfl, rfl, rfl⟩ q)
  · obtain ⟨t, rfl⟩ := r1
    cases hz : z.cps.all (· < 128) with
    | false => exact wpAny_pyIter_wide hz (pi_one (tk := s1.toks) I1 _ (turn_str _ z t "str_iterator" (.inr rfl)) ⟨_, Heap.get?_push_size _ rfl, rfl, rfl⟩ q)
    | true => exact wpAny_pyIter_ascii hz (pi_one (tk := s1.toks) I1 _ (turn_str _ z t "str_ascii_iterator" (.inl rfl)) ⟨_, Heap.get?_push_size _ rfl, rfl, rfl⟩ q)
  · obtain rfl : v = Value.ref a := r1
    obtain ⟨hs, hgd, hx, es, ep, vs, hdt, hsz, kv, hm⟩ := I1.frzK hd
    refine iter_keys hs hgd hx hdt (pi_one (tk := s1.toks) I1 _ (turn_keys _ hdt) ⟨_, Heap.get?_push_size _ rfl, rfl, ?_⟩ q)
    rw [hsz] <;> rfl
def itemsD : D → Option (List D)
  | .lst ds => some ds
  | .tup ds => some ds
  | .str z => some (signs z)
  | .arg ds => some ds
  | .dct ks _ => some (ks.map keyD)
  | _ => none
def iAny (s : SE) : SA := fun ρ => (s ρ).bind fun d ρ' => ofO (itemsD d) ρ'
theorem d_iAny (h : DE (GK X ex) X W e ea) : DI (GK X ex) X W tg e (iAny ea) := wkI (pi_any h) fun σ H Q ⟨ρ, F, Rv, io, rel, q⟩ => by
  refine ⟨ρ, F, Rv, io, rel, ?_⟩
  unfold iAny at q
  cases e : ea ρ with
  | stuck => rw [e] at q; exact q.elim
  | exc x ρ' => rw [e] at q; exact q
  | ok d ρ' =>
    rw [e, R.bind_ok] at q
    intro v H' F' le rel' rp
    cases rp with
    | lst t r => exact .inl ⟨_, _, rfl, SqL.of (rel'.fH _ _ t), q _ H' F' le rel' (iter_lst t r)⟩
    | tup t r => exact .inr (.inl ⟨_, _, rfl, rel'.fH.sqT t.sq, q _ H' F' le rel' (iter_tup t.sq r)⟩)
    | arg t r => exact .inr (.inl ⟨_, _, rfl, rel'.fH.sqT t, q _ H' F' le rel' (iter_tup t r)⟩)
    | str z => exact .inr (.inr (.inl ⟨z, rfl, q _ H' F' le rel' iter_str⟩))
    | dct t r => exact .inr (.inr (.inr ⟨_, _, _, rfl, rel'.fH _ _ t, q _ H' F' le rel' (iter_dct t)⟩))
    | _ => exact q.elim
def rng1D : List D → Option (List D)
  | [.int j] => if -(2 ^ 62) ≤ j ∧ j < 2 ^ 62 then some (upto 0 j.toNat) else none
  | _ => none
theorem rng1D_some {ds zs : List D} (h : rng1D ds = some zs) : ∃ j : Int, ds = [.int j] ∧ -(2 ^ 62) ≤ j ∧ j < 2 ^ 62 ∧ zs = upto 0 j.toNat := by
  unfold rng1D at h
  split at h
  · rename_i j
    split at h
    · rename_i hj; cases h; exact ⟨j, rfl, hj.1, hj.2, rfl⟩
    · cases h
  · cases h
def iRng1' (s : SA) : SA := fun ρ => (s ρ).bind fun ds ρ' => ofO (rng1D ds) ρ'
theorem d_iRng1 {e : Expr} (hg : Gl X "range") (hm : X.mg "range" = none) (ha : DA (GK X ex) X W [e] sA) (hs : starEach [e] X.env = [(false, eval e X.env)] := by rfl) : DI (GK X ex) X W tg (.Call (.Name "range" p) [e] [] pos) (iRng1' sA) :=
  wkI (pi_range1 hg hm ha hs) fun σ H Q ⟨ρ, F, Rv, io, rel, q⟩ => by
    refine ⟨ρ, F, Rv, io, rel, ?_⟩
    unfold iRng1' at q
    cases e : sA ρ with
    | stuck => rw [e] at q; exact q.elim
    | exc x ρ' => rw [e] at q; exact q
    | ok ds ρ' =>
      rw [e, R.bind_ok] at q
      intro vs H' F' le rel' rp
      cases e2 : rng1D ds with
      | none => rw [e2] at q; exact q.elim
      | some zs =>
        rw [e2] at q
        obtain ⟨j, rfl, h1, h2, rfl⟩ := rng1D_some e2
        cases rp with
        | cons r rr => cases rr; cases r; exact ⟨j, rfl, h1, h2, q _ H' F' le rel' iter_rng⟩
def rng2D : List D → Option (List D)
  | [.int i, .int j] => if -(2 ^ 62) ≤ i ∧ i < 2 ^ 62 ∧ -(2 ^ 62) ≤ j ∧ j < 2 ^ 62 then some (upto i (j - i).toNat) else none
  | _ => none
theorem rng2D_some {ds zs : List D} (h : rng2D ds = some zs) : ∃ i j : Int, ds = [.int i, .int j] ∧ (-(2 ^ 62) ≤ i ∧ i < 2 ^ 62 ∧ -(2 ^ 62) ≤ j ∧ j < 2 ^ 62) ∧ zs = upto i (j - i).toNat := by
  unfold rng2D at h
  split at h
  · rename_i i j
    split at h
    · rename_i hj; cases h; exact ⟨i, j, rfl, hj, rfl⟩
    · cases h
  · cases h
def iRng2' (s : SA) : SA := fun ρ => (s ρ).bind fun ds ρ' => ofO (rng2D ds) ρ'
theorem d_iRng2 {e e2 : Expr} (hg : Gl X "range") (hm : X.mg "range" = none) (ha : DA (GK X ex) X W [e, e2] sA) (hs : starEach [e, e2] X.env = [(false, eval e X.env), (false, eval e2 X.env)] := by rfl) (hs2 : starEach [e2] X.env = [(false, eval e2 X.env)] := by rfl) :
    DI (GK X ex) X W tg (.Call (.Name "range" p) [e, e2] [] pos) (iRng2' sA) :=
  wkI (pi_range2 hg hm ha hs hs2) fun σ H Q ⟨ρ, F, Rv, io, rel, q⟩ => by
    refine ⟨ρ, F, Rv, io, rel, ?_⟩
    unfold iRng2' at q
    cases e : sA ρ with
    | stuck => rw [e] at q; exact q.elim
    | exc x ρ' => rw [e] at q; exact q
    | ok ds ρ' =>
      rw [e, R.bind_ok] at q
      intro vs H' F' le rel' rp
      cases e2 : rng2D ds with
      | none => rw [e2] at q; exact q.elim
      | some zs =>
        rw [e2] at q
        obtain ⟨i, j, rfl, h1, rfl⟩ := rng2D_some e2
        cases rp with
        | cons r rr => cases rr with
          | cons r2 rr => cases rr; cases r; cases r2; exact ⟨i, j, rfl, h1, q _ H' F' le rel' iter_rng⟩

/-! ### targets -/
def gSet (i : Nat) : SG := fun d ρ => match ρ[i]? with
  | some (.io _) => .stuck
  | none => .stuck
  | _ => .ok () (ρ.set i (.fro d))
theorem wkG {X : Cx} {e : Expr} {t u : TG} (h : PG X e t) (w : ∀ v σ H Q, u v σ H Q → t v σ H Q) : PG X e u := ⟨fun pins s σ H v vv Q I r q => h.run pins s σ H v vv Q I r (w v σ H Q q)⟩
theorem gSet_ok {ρ ρ' : Env} {i : Nat} {d : D} {u : Unit} (h : gSet i d ρ = .ok u ρ') : (∀ e, ρ[i]? ≠ some (Cell.io e)) ∧ ρ' = ρ.set i (.fro d) := by
  unfold gSet at h
  split at h
  · cases h
  · cases h
  · rename_i h1 h2
    cases h
    exact ⟨fun e z => h1 e z, rfl⟩
theorem d_gName {i : Nat} (hN : X.N.Nodup) (hi : X.N[i]? = some x) (hx : Loc X.env.scope x) (hf : X.fn x = true ∨ X.env.scope.names.lookup x = some .local) : DG (GK X ex) X W [i] (.Name x pos) (gSet i) :=
  wkG (pg_name hN hi hx hf) fun v σ H Q ⟨d, ρ, F, Rv, io, rel, rp, q⟩ => by
    show Q (σ.set i (some v)) H
    cases e : gSet i d ρ with
    | stuck => rw [e] at q; exact q.elim
    | exc x ρ' => unfold gSet at e; split at e <;> cases e
    | ok u ρ' =>
      rw [e] at q
      obtain ⟨h1, rfl⟩ := gSet_ok e
      exact q _ H F (FLe.refl F) (rel.setFro rp h1) ⟨List.length_set, fun j hj => List.getElem?_set_ne fun z => hj (by simp [z])⟩
abbrev SGs := List D → Env → R Unit
def tGs (G : Gx) (W : WX) (js : List Nat) (s : SGs) : TGs := fun vs σ H Q => ∃ ds ρ F Rv, ∃ io : Io G.ex.tabs, Rel G.K io Rv ρ F σ H ∧ Rps G.K F vs ds ∧ match s ds ρ with
  | .ok _ ρ' => ∀ σ' H' F', FLe F F' → Rel G.K io Rv ρ' F' σ' H' → Keeps js σ σ' → Q σ' H'
  | .exc x ρ' => XPost G W io Rv F ρ' x
  | .stuck => False
abbrev DGs (G : Gx) (X : Cx) (W : WX) (js : List Nat) (e : List Expr) (s : SGs) : Prop := PGs X e (tGs G W js s)
theorem wkGs {X : Cx} {e : List Expr} {t u : TGs} (h : PGs X e t) (w : ∀ v σ H Q, u v σ H Q → t v σ H Q) : PGs X e u := ⟨fun pins s σ H v vv Q I r q => h.run pins s σ H v vv Q I r (w v σ H Q q)⟩
def gN : SGs := fun ds ρ => match ds with
  | [] => .ok () ρ
  | _ => .stuck
def gC (g : SG) (gs : SGs) : SGs := fun ds ρ => match ds with
  | d :: ds => (g d ρ).bind fun _ ρ' => gs ds ρ'
  | [] => .stuck
theorem d_gN : DGs (GK X ex) X W [] [] gN := wkGs pgs_nil fun v σ H Q ⟨ds, ρ, F, Rv, io, rel, rp, q⟩ => by
  cases rp with
  | nil => exact ⟨rfl, q σ H F (FLe.refl F) rel ⟨rfl, fun _ _ => rfl⟩⟩
  | cons _ _ => exact q.elim
theorem d_gC {g : SG} {gs : SGs} {js ks : List Nat} (h : DG (GK X ex) X W js e g) (h2 : DGs (GK X ex) X W ks es gs) (hs : (assignEach (e :: es) X.env).map (·.2) = assign e X.env :: (assignEach es X.env).map (·.2) := by rfl) : DGs (GK X ex) X W (js ++ ks) (e :: es) (gC g gs) :=
  wkGs (pgs_cons h h2 hs) fun vs σ H Q ⟨ds, ρ, F, Rv, io, rel, rp, q⟩ => by
    cases rp with
    | nil => exact q.elim
    | @cons v vs d ds r rr =>
      refine ⟨v, vs, rfl, d, ρ, F, Rv, io, rel, r, ?_⟩
      have q : (match (g d ρ).bind fun _ ρ' => gs ds ρ' with | .ok _ ρ' => ∀ σ' H' F', FLe F F' → Rel X.K io Rv ρ' F' σ' H' → Keeps (js ++ ks) σ σ' → Q σ' H' | .exc x ρ' => XPost (GK X ex) W io Rv F ρ' x | .stuck => False) := q
      cases e : g d ρ with
      | stuck => rw [e] at q; exact q.elim
      | exc x ρ' => rw [e] at q; exact q
      | ok u ρ' =>
        rw [e, R.bind_ok] at q
        refine fun σ' H' F' le rel' hj => ⟨ds, ρ', F', Rv, io, rel', rr.mono le, ?_⟩
        cases e2 : gs ds ρ' with
        | stuck => rw [e2] at q; exact q.elim
        | exc x ρ'' => rw [e2] at q; exact XPost.le q le
        | ok u ρ'' => rw [e2] at q; exact fun σ2 H2 F2 le2 rel2 hj2 => q σ2 H2 F2 (le.trans le2) rel2 ⟨hj2.1.trans hj.1, fun j hjk => (hj2.2 j fun z => hjk (List.mem_append_right _ z)).trans (hj.2 j fun z => hjk (List.mem_append_left _ z))⟩
/-- (a, b, ..): of a tuple or of a list -/
def gTup' (n : Nat) (gs : SGs) : SG := fun d ρ => match d with
  | .tup ds => if ds.length = n then gs ds ρ else .stuck
  | .lst ds => if ds.length = n then gs ds ρ else .stuck
  | .arg ds => if ds.length = n then gs ds ρ else .stuck
  | _ => .stuck
theorem pg_both {k n : Nat} {t : TGs} (hc : X.calm = true) (h : PGs X es t) (hn : (assignEach es X.env).length = n) (hst : (assignEach es X.env).findIdx? (·.1) = none) :
    PG X (.Tuple es k pos) (fun v σ H Q => gTup X.K n t v σ H Q ∨ gUnl X.K n t v σ H Q) :=
  ⟨fun pins s σ H v u Q I r hw => hw.elim (fun hw => (pg_tup hc h hn hst).run pins s σ H v u Q I r hw) fun hw => (pg_unl hc h hn hst).run pins s σ H v u Q I r hw⟩
theorem d_gTup {k n : Nat} {gs : SGs} {js : List Nat} (hc : X.calm = true) (h : DGs (GK X ex) X W js es gs) (hn : (assignEach es X.env).length = n := by rfl) (hst : (assignEach es X.env).findIdx? (·.1) = none := by rfl) : DG (GK X ex) X W js (.Tuple es k pos) (gTup' n gs) :=
  wkG (pg_both hc h hn hst) fun v σ H Q ⟨d, ρ, F, Rv, io, rel, rp, q⟩ => by
    cases d with
    | tup ds =>
      obtain ⟨a, xs, rfl, t, r⟩ := Vw.sqT (F := F) rel.fH (.inl rp)
      have q : (match (if ds.length = n then gs ds ρ else .stuck) with | .ok _ ρ' => ∀ σ' H' F', FLe F F' → Rel X.K io Rv ρ' F' σ' H' → Keeps js σ σ' → Q σ' H' | .exc x ρ' => XPost (GK X ex) W io Rv F ρ' x | .stuck => False) := q
      by_cases hl : ds.length = n
      · rw [if_pos hl] at q
        exact .inl ⟨a, xs, rfl, t, by rw [r.length]; exact hl, ds, ρ, F, Rv, io, rel, r, q⟩
      · rw [if_neg hl] at q; exact q.elim
    | arg ds =>
      obtain ⟨a, xs, rfl, t, r⟩ : ∃ a xs, v = .ref a ∧ SqT X.K F a xs ∧ Rps X.K F xs ds := by cases rp with | arg t r => exact ⟨_, _, rfl, t, r⟩
      have q : (match (if ds.length = n then gs ds ρ else .stuck) with | .ok _ ρ' => ∀ σ' H' F', FLe F F' → Rel X.K io Rv ρ' F' σ' H' → Keeps js σ σ' → Q σ' H' | .exc x ρ' => XPost (GK X ex) W io Rv F ρ' x | .stuck => False) := q
      by_cases hl : ds.length = n
      · rw [if_pos hl] at q
        exact .inl ⟨a, xs, rfl, rel.fH.sqT t, by rw [r.length]; exact hl, ds, ρ, F, Rv, io, rel, r, q⟩
      · rw [if_neg hl] at q; exact q.elim
    | lst ds =>
      obtain ⟨a, xs, rfl, t, r⟩ := Vw.lst (F := F) rel.fH (.inl rp)
      have q : (match (if ds.length = n then gs ds ρ else .stuck) with | .ok _ ρ' => ∀ σ' H' F', FLe F F' → Rel X.K io Rv ρ' F' σ' H' → Keeps js σ σ' → Q σ' H' | .exc x ρ' => XPost (GK X ex) W io Rv F ρ' x | .stuck => False) := q
      by_cases hl : ds.length = n
      · rw [if_pos hl] at q
        exact .inr ⟨a, xs, rfl, SqL.of t, by rw [r.length]; exact hl, ds, ρ, F, Rv, io, rel, r, q⟩
      · rw [if_neg hl] at q; exact q.elim
    | _ => exact q.elim

/-! ### comprehensions -/
def wipeE (ρ : Env) : List Nat → Env
  | [] => ρ
  | v :: vs => (wipeE ρ vs).set v .no
/-- the cells of the block's own names as they were -/
def backE (ρ0 ρ : Env) : List Nat → Env
  | [] => ρ
  | v :: vs => match ρ0[v]? with
    | some c => (backE ρ0 ρ vs).set v c
    | none => backE ρ0 ρ vs
def plainAt (ρ : Env) (vs : List Nat) : Bool := vs.all fun v => match ρ[v]? with
  | some .no => true
  | some (.fro _) => true
  | _ => false
def compGo (vs : List Nat) (g : SG) (t : ST) (s : SE) : List D → Env → R (List D)
  | [], ρ => .ok [] ρ
  | d :: ds, ρ => (g d ρ).bind fun _ ρ1 => (t ρ1).bind fun k ρ2 => match k with
    | true => (s ρ2).bind fun z ρ3 => if plainAt ρ3 vs = true then (compGo vs g t s ds (wipeE ρ3 vs)).bind fun zs ρ4 => .ok (z :: zs) ρ4 else .stuck
    | false => if plainAt ρ2 vs = true then compGo vs g t s ds (wipeE ρ2 vs) else .stuck
def noX {α : Type} : R α → R α
  | .ok a ρ => .ok a ρ
  | _ => .stuck
def sComp (vs : List Nat) (it : SA) (g : SG) (t : ST) (s : SE) : SE := fun ρ => (it ρ).bind fun ds ρ1 =>
  if plainAt ρ1 vs = true ∧ ds.length ≤ sizeLine then (noX (compGo vs g t s ds (wipeE ρ1 vs))).bind fun zs ρ2 => .ok (.lst zs) (backE ρ1 ρ2 vs) else .stuck
abbrev W0 : WX := fun _ _ _ _ => False

theorem wipe_get {σ : L2.St} {i : Nat} : ∀ vs : List Nat, (wipe σ vs)[i]? = if i ∈ vs then (σ[i]?).map fun _ => none else σ[i]?
  | [] => by simp [wipe]
  | v :: vs => by
    have ih := wipe_get (σ := σ) (i := i) vs
    unfold wipe
    rw [List.getElem?_set, wipe_length]
    by_cases h : v = i
    · subst h
      rw [if_pos rfl, if_pos (show v ∈ v :: vs from List.mem_cons_self)]
      by_cases hl : v < σ.length
      · rw [if_pos hl]; simp [hl]
      · rw [if_neg hl]; rw [List.getElem?_eq_none (by omega)]; rfl
    · rw [if_neg h, ih]
      by_cases h2 : i ∈ vs
      · rw [if_pos h2, if_pos (List.mem_cons_of_mem _ h2)]
      · rw [if_neg h2, if_neg (by simp only [List.mem_cons, not_or]; exact ⟨fun z => h z.symm, h2⟩)]
theorem wipe_same {σ σ' : L2.St} {vs : List Nat} (hl : σ'.length = σ.length) (h : ∀ j, j ∉ vs → σ'[j]? = (wipe σ vs)[j]?) : wipe σ' vs = wipe σ vs := by
  refine List.ext_getElem? fun j => ?_
  rw [wipe_get, wipe_get]
  by_cases hj : j ∈ vs
  · rw [if_pos hj, if_pos hj]
    by_cases hz : j < σ.length
    · rw [List.getElem?_eq_getElem (by omega), List.getElem?_eq_getElem hz]; rfl
    · rw [List.getElem?_eq_none (by omega), List.getElem?_eq_none (by omega)]
  · have q := h j hj
    rw [wipe_get, if_neg hj] at q
    rw [if_neg hj, if_neg hj, q]
theorem wipeE_len {ρ : Env} : ∀ vs : List Nat, (wipeE ρ vs).length = ρ.length
  | [] => rfl
  | v :: vs => by unfold wipeE; rw [List.length_set]; exact wipeE_len vs
theorem wipeE_get {ρ : Env} {i : Nat} : ∀ vs : List Nat, (wipeE ρ vs)[i]? = if i ∈ vs then (ρ[i]?).map fun _ => Cell.no else ρ[i]?
  | [] => by simp [wipeE]
  | v :: vs => by
    have ih := wipeE_get (ρ := ρ) (i := i) vs
    unfold wipeE
    rw [List.getElem?_set, wipeE_len]
    by_cases h : v = i
    · subst h
      rw [if_pos rfl, if_pos (show v ∈ v :: vs from List.mem_cons_self)]
      by_cases hl : v < ρ.length
      · rw [if_pos hl]; simp [hl]
      · rw [if_neg hl]; rw [List.getElem?_eq_none (by omega)]; rfl
    · rw [if_neg h, ih]
      by_cases h2 : i ∈ vs
      · rw [if_pos h2, if_pos (List.mem_cons_of_mem _ h2)]
      · rw [if_neg h2, if_neg (by simp only [List.mem_cons, not_or]; exact ⟨fun z => h z.symm, h2⟩)]
theorem backE_get {ρ0 ρ : Env} {i : Nat} (hl : ρ0.length = ρ.length) : ∀ vs : List Nat, (backE ρ0 ρ vs).length = ρ.length ∧ (backE ρ0 ρ vs)[i]? = if i ∈ vs then ρ0[i]? else ρ[i]?
  | [] => by simp [backE]
  | v :: vs => by
    obtain ⟨hlen, ih⟩ := backE_get (ρ0 := ρ0) (ρ := ρ) (i := i) hl vs
    unfold backE
    cases e : ρ0[v]? with
    | none =>
      refine ⟨hlen, ?_⟩
      show (backE ρ0 ρ vs)[i]? = _
      rw [ih]
      by_cases h : v = i
      · subst h
        rw [if_pos (show v ∈ v :: vs by simp)]
        have hv := List.getElem?_eq_none_iff.mp e
        by_cases h2 : v ∈ vs
        · rw [if_pos h2]
        · rw [if_neg h2, e, List.getElem?_eq_none (by omega)]
      · by_cases h2 : i ∈ vs
        · rw [if_pos h2, if_pos (List.mem_cons_of_mem _ h2)]
        · rw [if_neg h2, if_neg (by simp only [List.mem_cons, not_or]; exact ⟨fun z => h z.symm, h2⟩)]
    | some c =>
      refine ⟨by show ((backE ρ0 ρ vs).set v c).length = _; rw [List.length_set, hlen], ?_⟩
      show ((backE ρ0 ρ vs).set v c)[i]? = _
      rw [List.getElem?_set, hlen]
      have hv := (List.getElem?_eq_some_iff.mp e).1
      by_cases h : v = i
      · subst h
        rw [if_pos rfl, if_pos (show v < ρ.length by omega), if_pos (show v ∈ v :: vs from List.mem_cons_self), e]
      · rw [if_neg h, ih]
        by_cases h2 : i ∈ vs
        · rw [if_pos h2, if_pos (List.mem_cons_of_mem _ h2)]
        · rw [if_neg h2, if_neg (by simp only [List.mem_cons, not_or]; exact ⟨fun z => h z.symm, h2⟩)]
theorem plain_at {ρ : Env} {vs : List Nat} (h : plainAt ρ vs = true) {v : Nat} (hv : v ∈ vs) {c : Cell} (e : ρ[v]? = some c) : c = .no ∨ ∃ d, c = .fro d := by
  have q := List.all_eq_true.mp h v hv
  rw [e] at q
  cases c with
  | no => exact .inl rfl
  | fro d => exact .inr ⟨d, rfl⟩
  | own d => cases q
  | io d => cases q
section
variable {K : PySem.W.Frag} {T : List (Addr × Str)} {io : Io T} {Rv : Hp} {ρ ρ0 : Env} {F F0 : Hp} {σ : L2.St} {H H0 : Hp} {vs : List Nat}
theorem Rel.wiped (r : Rel K io Rv ρ F σ H) (h : plainAt ρ vs = true) : Rel K io Rv (wipeE ρ vs) F (wipe σ vs) H := by
  have same : ∀ {i c}, (wipeE ρ vs)[i]? = some c → c.held.isSome = true ∨ (∃ d, c = .fro d) → i ∉ vs ∧ ρ[i]? = some c := fun {i c} e q => by
    rw [wipeE_get] at e
    by_cases hi : i ∈ vs
    · rw [if_pos hi] at e
      cases e2 : ρ[i]? with
      | none => rw [e2] at e; cases e
      | some c' => rw [e2] at e; cases e; rcases q with q | ⟨d, q⟩ <;> cases q
    · rw [if_neg hi] at e; exact ⟨hi, e⟩
  have slot : ∀ {i}, i ∉ vs → (wipe σ vs)[i]? = σ[i]? := fun {i} hi => by rw [wipe_get, if_neg hi]
  refine ⟨r.fH, r.rH, r.dj, by rw [wipeE_len, wipe_length]; exact r.len, fun i c v e1 e2 => ?_, fun i j ci cj di dj p e1 e2 h1 h2 s1 s2 => ?_, fun ip hip => ?_, (fun i d e => ?_), r.tab, r.nt⟩
  · cases c with
    | no => trivial
    | _ =>
      obtain ⟨n, e⟩ := same e1 (by first | exact .inl rfl | exact .inr ⟨_, rfl⟩)
      rw [slot n] at e2
      exact r.cell i _ v e e2
  · obtain ⟨n1, g1⟩ := same e1 (.inl (by rw [h1]; rfl))
    obtain ⟨n2, g2⟩ := same e2 (.inl (by rw [h2]; rfl))
    rw [slot n1] at s1
    rw [slot n2] at s2
    exact r.inj i j ci cj di dj p g1 g2 h1 h2 s1 s2
  · obtain ⟨⟨d, e1⟩, e2⟩ := r.ios ip hip
    have n : ip.1 ∉ vs := fun hv => by rcases plain_at h hv e1 with z | ⟨_, z⟩ <;> cases z
    exact ⟨⟨d, by rw [wipeE_get, if_neg n]; exact e1⟩, by rw [slot n]; exact e2⟩
  · obtain ⟨n, e⟩ := same e (.inl rfl)
    exact r.ioc i d e
theorem Rel.back (r0 : Rel K io Rv ρ0 F0 σ H0) (r : Rel K io Rv ρ F (wipe σ vs) H) (le : FLe F0 F) (h : plainAt ρ0 vs = true) : Rel K io Rv (backE ρ0 ρ vs) F σ H := by
  have hl : ρ0.length = ρ.length := by rw [r0.len, r.len, wipe_length]
  have slot : ∀ {i}, i ∉ vs → (wipe σ vs)[i]? = σ[i]? := fun {i} hi => by rw [wipe_get, if_neg hi]
  have held : ∀ {i c}, (backE ρ0 ρ vs)[i]? = some c → c.held.isSome = true → i ∉ vs ∧ ρ[i]? = some c := fun {i c} e q => by
    rw [(backE_get hl vs).2] at e
    by_cases hi : i ∈ vs
    · rw [if_pos hi] at e
      rcases plain_at h hi e with z | ⟨_, z⟩ <;> (subst z; cases q)
    · rw [if_neg hi] at e; exact ⟨hi, e⟩
  refine ⟨r.fH, r.rH, r.dj, by rw [(backE_get (i := 0) hl vs).1, r.len, wipe_length], fun i c v e1 e2 => ?_, fun i j ci cj di dj p e1 e2 h1 h2 s1 s2 => ?_, fun ip hip => ?_, (fun i d e => ?_), r.tab, r.nt⟩
  · rw [(backE_get hl vs).2] at e1
    by_cases hi : i ∈ vs
    · rw [if_pos hi] at e1
      have q := r0.cell i c v e1 e2
      rcases plain_at h hi e1 with z | ⟨d, z⟩
      · subst z; trivial
      · subst z; obtain ⟨x, e, q⟩ := q; exact ⟨x, e, q.mono le⟩
    · rw [if_neg hi] at e1
      exact r.cell i c v e1 (by rw [slot hi]; exact e2)
  · obtain ⟨n1, g1⟩ := held e1 (by rw [h1]; rfl)
    obtain ⟨n2, g2⟩ := held e2 (by rw [h2]; rfl)
    exact r.inj i j ci cj di dj p g1 g2 h1 h2 (by rw [slot n1]; exact s1) (by rw [slot n2]; exact s2)
  · obtain ⟨⟨d, e1⟩, e2⟩ := r0.ios ip hip
    have n : ip.1 ∉ vs := fun hv => by rcases plain_at h hv e1 with z | ⟨_, z⟩ <;> cases z
    obtain ⟨⟨d', e3⟩, _⟩ := r.ios ip hip
    exact ⟨⟨d', by rw [(backE_get hl vs).2, if_neg n]; exact e3⟩, e2⟩
  · obtain ⟨n, e⟩ := held e rfl
    exact r.ioc i d e
/-- a new object that is kept -/
theorem Rel.resAdd (r : Rel K io Rv ρ F σ H) {D : Addr} (n : H D = none) (o : HO) (no : ∀ ps, o ≠ .tbl ps := by intro ps z; cases z) (nx : ∀ q, o ≠ LamX.CodeO D q := by intro ps z; unfold LamX.CodeO at z; cases z) : Rel K io (upd Rv D o) ρ F σ (upd H D o) := by
  have r2 := r.newH n o
  refine ⟨r2.fH, fun a u e => ?_, fun a u e => ?_, r2.len, fun i c v e1 e2 => ?_, r2.inj, r2.ios, r2.ioc, fun t ht => let q := r2.tab t ht; let ⟨ps, ep⟩ := (r.tab t ht).tbl; q.mv q.1 (by rw [upd_ne (ne_of_none ep n)]; exact q.2.1) (fun _ e => e) (FLe.refl F) (q.nR.upd no nx), r2.nt⟩
  · by_cases z : a = D
    · subst z; rw [upd_same] at e ⊢; exact e
    · rw [upd_ne z] at e ⊢; exact r.rH a u e
  · rw [upd_ne (fun z => by subst z; rw [r.fH.noneOf n] at e; cases e)]
    exact r.dj a u e
  · have q := r2.cell i c v e1 e2
    have own : ∀ {p d}, v = some (.ref p) → OwnAt K F Rv (upd H D o) p d → c.held = some d → OwnAt K F (upd Rv D o) (upd H D o) p d := fun {p d} hv w hh => by
      refine ⟨w.nF, ?_, w.at_⟩
      rw [upd_ne]
      · exact w.nR
      · intro z
        subst z
        subst hv
        obtain ⟨p', e3, w'⟩ := r.heldAt e1 hh
        rw [e2] at e3
        cases e3
        obtain ⟨o', e4, _⟩ := w'.at_
        rw [n] at e4
        cases e4
    cases c with
    | no => trivial
    | fro d => exact q
    | own d => obtain ⟨p, e, q⟩ := q; exact ⟨p, e, own e q rfl⟩
    | io d => obtain ⟨p, e, q⟩ := q; exact ⟨p, e, own e q rfl⟩
theorem Rel.resPut {D : Addr} {o o' : HO} (r : Rel K io (upd Rv D o) ρ F σ H) (no : ∀ ps, o' ≠ .tbl ps := by intro ps z; cases z) (nx : ∀ q, o' ≠ LamX.CodeO D q := by intro ps z; unfold LamX.CodeO at z; cases z) : Rel K io (upd Rv D o') ρ F σ (upd H D o') := by
  have nF : ∀ a u, F a = some u → a ≠ D := fun a u e z => by subst z; have q := r.dj a u e; rw [upd_same] at q; cases q
  refine ⟨fun a u e => by rw [upd_ne (nF a u e)]; exact r.fH a u e, fun a u e => ?_, fun a u e => ?_, r.len, fun i c v e1 e2 => ?_, r.inj, r.ios, r.ioc, fun t ht => let q := r.tab t ht; have ne : t.1 ≠ D := (fun z => by have w := q.2.1; rw [z, upd_same] at w; cases w); q.mv q.1 (by have w := q.2.1; rw [upd_ne ne] at w; rw [upd_ne ne]; exact w) (fun _ e => by rw [upd_ne ne]; exact e) (FLe.refl F) ⟨fun a ps e => by
    by_cases z : a = D
    · subst z; rw [upd_same] at e; exact no ps (Option.some.inj e)
    · rw [upd_ne z] at e; exact q.nR.1 a ps (by rw [upd_ne z]; exact e), fun a ps e => by
    by_cases z : a = D
    · subst z; rw [upd_same] at e; exact nx ps (Option.some.inj e)
    · rw [upd_ne z] at e; exact q.nR.2 a ps (by rw [upd_ne z]; exact e)⟩, r.nt⟩
  · by_cases z : a = D
    · subst z; rw [upd_same] at e ⊢; exact e
    · rw [upd_ne z] at e ⊢; exact r.rH a u (by rw [upd_ne z]; exact e)
  · have q := r.dj a u e
    rw [upd_ne (nF a u e)] at q ⊢
    exact q
  · have q := r.cell i c v e1 e2
    have own : ∀ {p d}, OwnAt K F (upd Rv D o) H p d → OwnAt K F (upd Rv D o') (upd H D o') p d := fun {p d} w => by
      have ne : p ≠ D := fun z => by subst z; have q := w.nR; rw [upd_same] at q; cases q
      obtain ⟨ob, e, w3⟩ := w.at_
      exact ⟨w.nF, by rw [upd_ne ne]; have q := w.nR; rw [upd_ne ne] at q; exact q, ob, by rw [upd_ne ne]; exact e, w3⟩
    cases c with
    | no => trivial
    | fro d => exact q
    | own d => obtain ⟨p, e, q⟩ := q; exact ⟨p, e, own q⟩
    | io d => obtain ⟨p, e, q⟩ := q; exact ⟨p, e, own q⟩
theorem Rel.resDrop {D : Addr} {o : HO} (r : Rel K io (upd Rv D o) ρ F σ H) (n : Rv D = none) : Rel K io Rv ρ F σ H ∧ F D = none ∧ H D = some o ∧ Loose ρ σ D := by
  have sub : ∀ a u, Rv a = some u → a ≠ D := fun a u e z => by subst z; rw [n] at e; cases e
  have own : ∀ {p d}, OwnAt K F (upd Rv D o) H p d → p ≠ D ∧ OwnAt K F Rv H p d := fun {p d} w => by
    have ne : p ≠ D := fun z => by subst z; have q := w.nR; rw [upd_same] at q; cases q
    exact ⟨ne, w.nF, by have q := w.nR; rw [upd_ne ne] at q; exact q, w.at_⟩
  refine ⟨⟨r.fH, fun a u e => r.rH a u (by rw [upd_ne (sub a u e)]; exact e), fun a u e => ?_, r.len, fun i c v e1 e2 => ?_, r.inj, r.ios, r.ioc, fun t ht => let q := r.tab t ht; have ne : t.1 ≠ D := (fun z => by have w := q.2.1; rw [z, upd_same] at w; cases w); q.mv q.1 (by have w := q.2.1; rw [upd_ne ne] at w; exact w) (fun _ e => e) (FLe.refl F) ⟨fun a ps e => q.nR.1 a ps (by rw [upd_ne (sub a _ e)]; exact e), fun a ps e => q.nR.2 a ps (by rw [upd_ne (sub a _ e)]; exact e)⟩, r.nt⟩, ?_, r.rH D o upd_same, fun i c d e1 e2 e3 => ?_⟩
  · have q := r.dj a u e
    cases e2 : Rv a with
    | none => rfl
    | some w => rw [upd_ne (sub a w e2), e2] at q; cases q
  · have q := r.cell i c v e1 e2
    cases c with
    | no => trivial
    | fro d => exact q
    | own d => obtain ⟨p, e, q⟩ := q; exact ⟨p, e, (own q).2⟩
    | io d => obtain ⟨p, e, q⟩ := q; exact ⟨p, e, (own q).2⟩
  · cases e : F D with
    | none => rfl
    | some u => have q := r.dj D u e; rw [upd_same] at q; cases q
  · obtain ⟨p, e4, w⟩ := r.heldAt e1 e2
    rw [e3] at e4
    cases e4
    exact (own w).1 rfl
end
end
end Dt

set_option Elab.async false
set_option linter.all false
set_option maxRecDepth 100000
set_option maxHeartbeats 2000000
/-! The judgements' rules: comprehensions, statements, loops, calls, defs. -/
namespace Dt
open PySem PySem.Spec PyProof.Rows L2

theorem drop_at {α : Type} {l : List α} {i : Nat} (h : i < l.length) : ∃ x, l[i]? = some x ∧ l.drop i = x :: l.drop (i + 1) := ⟨l[i], by simp [h], List.drop_eq_getElem_cons h⟩
section
variable {ex : Exx} {X : Cx} {W : WX} {a b c e tg : Expr} {es : List Expr} {pos p : Pos} {sa sb sc : SO} {ea eb : SE} {sB : SB} {sA : SA} {x : Str} {id : String}

theorem comp_core {G : Gx} {σ : L2.St} {H : Hp} {Q : VK} {it : SA} {g : SG} {t : ST} {s : SE} {js vs : List Nat} (hjs : js.all (fun j => vs.contains j) = true) (h : tF G W (sComp vs it g t s) σ H Q) :
    tLc (tI G W it) (tG G W0 js g) (tT G W0 t) (tE G W0 s) vs σ H Q := by
    obtain ⟨ρ, F, Rv, io, rel, q⟩ := h
    refine ⟨ρ, F, Rv, io, rel, ?_⟩
    unfold sComp at q
    cases e : it ρ with
    | stuck => rw [e] at q; exact q.elim
    | exc x ρ' => rw [e] at q; exact q
    | ok ds ρ1 =>
      rw [e, R.bind_ok] at q
      intro J H1 F1 le1 rel1 J1 Dl hD
      by_cases hp : plainAt ρ1 vs = true ∧ ds.length ≤ sizeLine
      case neg => rw [if_neg hp] at q; exact q.elim
      rw [if_pos hp] at q
      obtain ⟨hpl, hz⟩ := hp
      cases e2 : compGo vs g t s ds (wipeE ρ1 vs) with
      | stuck => rw [e2] at q; exact q.elim
      | exc x ρ' => rw [e2] at q; exact q.elim
      | ok zs ρe =>
        rw [e2] at q
        have nR : Rv Dl = none := rel1.rH.noneOf hD
        refine ⟨fun i m H => m = ds.length - i ∧ i ≤ ds.length ∧ ∃ (ρi : Env) (Fi : Hp) (acc : List V) (dn rest : List D), FLe F1 Fi ∧ Rel G.K io (upd Rv Dl (.lst acc)) ρi Fi (wipe σ vs) H ∧ acc.length ≤ i ∧ Rps G.K Fi acc dn ∧
          compGo vs g t s (ds.drop i) ρi = .ok rest ρe ∧ dn ++ rest = zs, ⟨ds.length, rfl.trans (Nat.sub_zero _).symm, Nat.zero_le _, wipeE ρ1 vs, F1, [], [], zs, FLe.refl _, (rel1.wiped hpl).resAdd hD _, Nat.le_refl _, .nil, e2, rfl⟩, ?_⟩
        rintro i m H ⟨rfl, hi, ρi, Fi, acc, dn, rest, lei, reli, hacc, racc, hgo, hzs⟩
        by_cases hlt : i < ds.length
        · obtain ⟨d, hd, hdr⟩ := drop_at hlt
          rw [hdr] at hgo
          unfold compGo at hgo
          refine .inr ⟨J1.go i Fi H lei reli.fH hlt, fun H' => ∃ (ρ2 : Env) (F2 : Hp) (acc2 : List V) (dn2 rest2 : List D), FLe F1 F2 ∧ Rel G.K io (upd Rv Dl (.lst acc2)) ρ2 F2 (wipe σ vs) H' ∧ acc2.length ≤ i + 1 ∧ Rps G.K F2 acc2 dn2 ∧
              compGo vs g t s (ds.drop (i + 1)) ρ2 = .ok rest2 ρe ∧ dn2 ++ rest2 = zs, fun H' z => ⟨ds.length - (i + 1), by omega, rfl, hlt, z⟩, fun xv H' y => ?_⟩
          obtain ⟨F2, nw, rp⟩ := J1.yld i Fi H H' xv d lei reli.fH hd y
          have rel2 := reli.after nw
          refine ⟨d, ρi, F2, _, io, rel2, rp, ?_⟩
          cases e3 : g d ρi with
          | stuck => rw [e3] at hgo; cases hgo
          | exc x ρ' => rw [e3] at hgo; cases hgo
          | ok u ρ3 =>
            rw [e3, R.bind_ok] at hgo
            intro σ3 H3 F3 le3 rel3 hj3
            have hjs' : ∀ j, j ∉ vs → σ3[j]? = (wipe σ vs)[j]? := fun j hj => hj3.2 j fun z => hj (by
              have w := List.all_eq_true.mp hjs j z
              simpa using w)
            have hl3 : σ3.length = σ.length := hj3.1.trans (wipe_length σ vs)
            have hw := wipe_same hl3 hjs'
            refine ⟨hw, ρ3, F3, _, io, rel3, ?_⟩
            cases e4 : t ρ3 with
            | stuck => rw [e4] at hgo; cases hgo
            | exc x ρ' => rw [e4] at hgo; cases hgo
            | ok k ρ4 =>
              rw [e4, R.bind_ok] at hgo
              intro H4 F4 le4 rel4
              cases k with
              | false =>
                refine iteF ?_
                have hgo : (if plainAt ρ4 vs = true then compGo vs g t s (ds.drop (i + 1)) (wipeE ρ4 vs) else .stuck) = R.ok rest ρe := hgo
                by_cases hp4 : plainAt ρ4 vs = true
                · rw [if_pos hp4] at hgo
                  have le := (nw.f.trans le3).trans le4
                  refine ⟨wipeE ρ4 vs, F4, acc, dn, rest, lei.trans le, ?_, Nat.le_succ_of_le hacc, racc.mono le, hgo, hzs⟩
                  have r := rel4.wiped hp4
                  rw [hw] at r
                  exact r
                · rw [if_neg hp4] at hgo; cases hgo
              | true =>
                refine iteT ⟨ρ4, F4, _, io, rel4, ?_⟩
                have hgo : ((s ρ4).bind fun z ρ3 => if plainAt ρ3 vs = true then (compGo vs g t s (ds.drop (i + 1)) (wipeE ρ3 vs)).bind fun zs ρ4 => .ok (z :: zs) ρ4 else .stuck) = R.ok rest ρe := hgo
                cases e5 : s ρ4 with
                | stuck => rw [e5] at hgo; cases hgo
                | exc x ρ' => rw [e5] at hgo; cases hgo
                | ok z ρ5 =>
                  rw [e5, R.bind_ok] at hgo
                  intro yv H5 F5 le5 rel5 rp5
                  by_cases hp5 : plainAt ρ5 vs = true
                  · rw [if_pos hp5] at hgo
                    cases e6 : compGo vs g t s (ds.drop (i + 1)) (wipeE ρ5 vs) with
                    | stuck => rw [e6] at hgo; cases hgo
                    | exc x ρ' => rw [e6] at hgo; cases hgo
                    | ok rest' ρ6 =>
                      rw [e6, R.bind_ok] at hgo
                      have eq1 : z :: rest' = rest ∧ ρ6 = ρe := by cases hgo; exact ⟨rfl, rfl⟩
                      obtain ⟨rfl, rfl⟩ := eq1
                      have le := ((nw.f.trans le3).trans le4).trans le5
                      refine ⟨acc, rel5.rH Dl _ upd_same, Nat.lt_of_le_of_lt hacc (Nat.lt_of_lt_of_le hlt hz), wipeE ρ5 vs, F5, acc ++ [yv], dn ++ [z], rest', lei.trans le, ?_, by rw [List.length_append]; simpa using hacc, (racc.mono le).append (.cons rp5 .nil), e6, by simp [← hzs]⟩
                      have r := rel5.wiped hp5
                      rw [hw] at r
                      exact r.resPut
                  · rw [if_neg hp5] at hgo; cases hgo
        · have hi2 : i = ds.length := by omega
          subst hi2
          rw [List.drop_eq_nil_of_le (Nat.le_refl _)] at hgo
          unfold compGo at hgo
          cases hgo
          refine .inl ⟨J1.stop Fi H lei reli.fH, ?_⟩
          obtain ⟨relD, n1, n2, lo⟩ := reli.resDrop nR
          have relB := rel1.back (vs := vs) relD lei hpl
          refine q Dl H Fi (le1.trans lei) relB ⟨n1, nR, _, n2, acc, rfl, ?_⟩ fun i c d e1 e2 e3 => ?_
          · rw [List.append_nil] at hzs
            subst hzs
            exact racc
          · have hlen : ρ1.length = ρe.length := by rw [rel1.len, relD.len, wipe_length]
            rw [(backE_get hlen vs).2] at e1
            by_cases hi : i ∈ vs
            · rw [if_pos hi] at e1
              rcases plain_at hpl hi e1 with z | ⟨_, z⟩ <;> (subst z; cases e2)
            · rw [if_neg hi] at e1
              exact lo i c d e1 e2 (by rw [wipe_get, if_neg hi]; exact e3)
theorem d_compF {elt iter : Expr} {ifs : List Expr} {scope : Scope} {own : List (Str × Nat)} {it : SA} {g : SG} {t : ST} {s : SE} {js : List Nat} (hu : At X W) (hi : DI (GK X ex) X W tg iter it) (ok : BlkOk X.N X.env.scope scope own)
    (hg : ∀ (s : Shared) (H : Hp) (C : Addr) (cl : List (Str × Addr)) (fp : List Addr), DG (GK X ex) (X.blk s H scope (compEnvC scope cl C X.env) fp) W0 js tg g)
    (ht : ∀ (s : Shared) (H : Hp) (C : Addr) (cl : List (Str × Addr)) (fp : List Addr), PTs (X.blk s H scope (compEnvC scope cl C X.env) fp) ifs (tT (GK X ex) W0 t))
    (he : ∀ (s' : Shared) (H : Hp) (C : Addr) (cl : List (Str × Addr)) (fp : List Addr), DE (GK X ex) (X.blk s' H scope (compEnvC scope cl C X.env) fp) W0 elt s) (hjs : js.all (fun j => (own.map (·.2)).contains j) = true) (hs : ∀ x, foldedSetIterable iter X.env x = pure x := by intro _; rfl) :
    DF (GK X ex) X W (.ListComp elt [⟨tg, iter, ifs, 0⟩] scope pos) (sComp (own.map (·.2)) it g t s) :=
  wkE (pe_lc hu.calm hu.nd hi ok hg ht he hs) fun σ H Q h => comp_core hjs h

/-! ### statements -/
def sAsg (g : SG) (s : SE) : SS := fun ρ => (s ρ).bind fun d ρ' => (g d ρ').bind fun _ ρ'' => .ok .nx ρ''
theorem asg_core {G : Gx} {σ : L2.St} {H : Hp} {D : Ends} {g : SG} {s : SE} {js : List Nat} (h : tS G W (sAsg g s) D σ H) : tE G W s σ H fun v H1 => tG G W js g v σ H1 D.nx := by
  obtain ⟨ρ, F, Rv, io, rel, q⟩ := h
  refine ⟨ρ, F, Rv, io, rel, ?_⟩
  unfold sAsg at q
  cases e : s ρ with
  | stuck => rw [e] at q; exact q.elim
  | exc x ρ' => rw [e] at q; exact q
  | ok d ρ' =>
    rw [e, R.bind_ok] at q
    intro v H' F' le rel' rp
    refine ⟨d, ρ', F', Rv, io, rel', rp, ?_⟩
    cases e2 : g d ρ' with
    | stuck => rw [e2] at q; exact q.elim
    | exc x ρ'' => rw [e2] at q; exact XPost.le q le
    | ok u ρ'' => rw [e2] at q; exact fun σ' H2 F2 le2 rel2 _ => q σ' H2 F2 (le.trans le2) rel2
theorem d_asg {g : SG} {js : List Nat} (he : DE (GK X ex) X W e ea) (hg : DG (GK X ex) X W js tg g) (hs : swapsWithSole [tg] e pos.line X.env = pure false := by rfl) (hw : swappedStores [tg] e X.env = pure none := by rfl)
    (h1 : (assignEach [tg] X.env).map (·.2) = [assign tg X.env] := by rfl) : DS (GK X ex) X W (.Assign [tg] e pos) (sAsg g ea) := wkS (ps_asg he hg hs hw h1) fun D σ H h => asg_core h
theorem d_setN {i : Nat} {pos' : Pos} (nd : X.N.Nodup) (hi : X.N[i]? = some x) (hx : Loc X.env.scope x) (he : DE (GK X ex) X W e ea) (hs : swapsWith e (some (.Name x pos')) pos.line X.env = pure false := by rfl) (hf : X.fn x = true ∨ X.env.scope.names.lookup x = some .local := by first | exact .inl rfl | exact .inr rfl | assumption) :
    DS (GK X ex) X W (.Assign [.Name x pos'] e pos) (sAsg (gSet i) ea) := wkS (ps_set nd hi hx he hs hf) fun D σ H h => tE_mono (asg_core (js := [i]) h) fun v H1 z => by
      obtain ⟨d, ρ, F, Rv, io, rel, rp, q⟩ := z
      show D.nx (σ.set i (some v)) H1
      cases e2 : gSet i d ρ with
      | stuck => rw [e2] at q; exact q.elim
      | exc x ρ'' => unfold gSet at e2; split at e2 <;> cases e2
      | ok u ρ'' =>
        rw [e2] at q
        obtain ⟨h1, rfl⟩ := gSet_ok e2
        exact q _ H1 F (FLe.refl F) (rel.setFro rp h1) ⟨List.length_set, fun j hj => List.getElem?_set_ne fun z => hj (by simp [z])⟩
theorem d_set {i : Nat} {pos' : Pos} (hu : At X W) (hi : X.N[i]? = some x) (hx : Loc X.env.scope x) (he : DE (GK X ex) X W e ea) (hs : swapsWith e (some (.Name x pos')) pos.line X.env = pure false := by rfl) (hf : X.fn x = true ∨ X.env.scope.names.lookup x = some .local := by first | exact .inl rfl | exact .inr rfl | assumption) :
    DS (GK X ex) X W (.Assign [.Name x pos'] e pos) (sAsg (gSet i) ea) := d_setN hu.nd hi hx he hs hf
/-- a new object becomes the variable's own -/
def gOwn (i : Nat) : SG := fun d ρ => match ρ[i]? with
  | some (.io _) => .stuck
  | none => .stuck
  | _ => .ok () (ρ.set i (.own d))
theorem gOwn_ok {ρ ρ' : Env} {i : Nat} {d : D} {u : Unit} (h : gOwn i d ρ = .ok u ρ') : (∀ e, ρ[i]? ≠ some (Cell.io e)) ∧ ρ' = ρ.set i (.own d) := by
  unfold gOwn at h
  split at h
  · cases h
  · cases h
  · rename_i h1 h2
    cases h
    exact ⟨fun e z => h1 e z, rfl⟩
theorem own_core {G : Gx} {σ : L2.St} {H : Hp} {D : Ends} {i : Nat} {s : SE} (h : tS G W (sAsg (gOwn i) s) D σ H) : tF G W s σ H fun v H1 => D.nx (σ.set i (some v)) H1 := by
  obtain ⟨ρ, F, Rv, io, rel, q⟩ := h
  refine ⟨ρ, F, Rv, io, rel, ?_⟩
  unfold sAsg at q
  cases e : s ρ with
  | stuck => rw [e] at q; exact q.elim
  | exc x ρ' => rw [e] at q; exact q
  | ok d ρ' =>
    rw [e, R.bind_ok] at q
    intro v H' F' le rel' ow lo
    cases e2 : gOwn i d ρ' with
    | stuck => rw [e2] at q; exact q.elim
    | exc x ρ'' => unfold gOwn at e2; split at e2 <;> cases e2
    | ok u ρ'' =>
      rw [e2] at q
      obtain ⟨h1, rfl⟩ := gOwn_ok e2
      exact q _ H' F' le (rel'.setOwn ow lo h1)
theorem d_setFN {i : Nat} {pos' : Pos} (nd : X.N.Nodup) (hi : X.N[i]? = some x) (hx : Loc X.env.scope x) (he : DF (GK X ex) X W e ea) (hs : swapsWith e (some (.Name x pos')) pos.line X.env = pure false := by rfl) (hf : X.fn x = true ∨ X.env.scope.names.lookup x = some .local := by first | exact .inl rfl | exact .inr rfl | assumption) :
    DS (GK X ex) X W (.Assign [.Name x pos'] e pos) (sAsg (gOwn i) ea) := wkS (ps_set nd hi hx he hs hf) fun D σ H h => own_core h
theorem d_setF {i : Nat} {pos' : Pos} (hu : At X W) (hi : X.N[i]? = some x) (hx : Loc X.env.scope x) (he : DF (GK X ex) X W e ea) (hs : swapsWith e (some (.Name x pos')) pos.line X.env = pure false := by rfl) (hf : X.fn x = true ∨ X.env.scope.names.lookup x = some .local := by first | exact .inl rfl | exact .inr rfl | assumption) :
    DS (GK X ex) X W (.Assign [.Name x pos'] e pos) (sAsg (gOwn i) ea) := d_setFN hu.nd hi hx he hs hf
/-- x = [..] on one line -/
theorem d_setComp {i : Nat} {pos' : Pos} {elt iter : Expr} {ifs : List Expr} {scope : Scope} {own : List (Str × Nat)} {it : SA} {g : SG} {t : ST} {s : SE} {js : List Nat} {cpos : Pos} (hu : At X W) (hy : X.N[i]? = some x) (hyl : X.env.scope.names.lookup x = some .local)
    (hsw : swapsWith (.ListComp elt [⟨tg, iter, ifs, 0⟩] scope cpos) (some (.Name x pos')) pos.line X.env = pure true) (hi : DI (GK X ex) X W tg iter it) (ok : BlkOk X.N X.env.scope scope own)
    (hg : ∀ (s : Shared) (H : Hp) (C : Addr) (cl : List (Str × Addr)) (fp : List Addr), DG (GK X ex) (X.blk s H scope (compEnvC scope cl C X.env) fp) W0 js tg g)
    (ht : ∀ (s : Shared) (H : Hp) (C : Addr) (cl : List (Str × Addr)) (fp : List Addr), PTs (X.blk s H scope (compEnvC scope cl C X.env) fp) ifs (tT (GK X ex) W0 t))
    (he : ∀ (s' : Shared) (H : Hp) (C : Addr) (cl : List (Str × Addr)) (fp : List Addr), DE (GK X ex) (X.blk s' H scope (compEnvC scope cl C X.env) fp) W0 elt s) (hjs : js.all (fun j => (own.map (·.2)).contains j) = true) (hs : ∀ x, foldedSetIterable iter X.env x = pure x := by intro _; rfl) :
    DS (GK X ex) X W (.Assign [.Name x pos'] (.ListComp elt [⟨tg, iter, ifs, 0⟩] scope cpos) pos) (sAsg (gOwn i) (sComp (own.map (·.2)) it g t s)) :=
  wkS (ps_setLc hu.calm hu.nd hy hyl hsw hi ok hg ht he hs) fun D σ H h => comp_core hjs (own_core h)
def sExpr (s : SE) : SS := fun ρ => (s ρ).bind fun _ ρ' => .ok .nx ρ'
theorem d_expr (he : DE (GK X ex) X W e ea) (hs : swapsWith e none pos.line X.env = pure false := by rfl) : DS (GK X ex) X W (.Expr e pos) (sExpr ea) := wkS (ps_expr he hs) fun D σ H ⟨ρ, F, Rv, io, rel, q⟩ => by
  refine ⟨ρ, F, Rv, io, rel, ?_⟩
  unfold sExpr at q
  cases e : ea ρ with
  | stuck => rw [e] at q; exact q.elim
  | exc x ρ' => rw [e] at q; exact q
  | ok d ρ' => rw [e] at q; exact fun v H' F' le rel' _ => q σ H' F' le rel'
def sRet (s : SE) : SS := fun ρ => (s ρ).bind fun d ρ' => .ok (.rt d) ρ'
theorem d_ret (he : DE (GK X ex) X W e ea) : DS (GK X ex) X W (.Return (some e) pos) (sRet ea) := wkS (ps_ret he) fun D σ H ⟨ρ, F, Rv, io, rel, q⟩ => by
  refine ⟨ρ, F, Rv, io, rel, ?_⟩
  unfold sRet at q
  cases e : ea ρ with
  | stuck => rw [e] at q; exact q.elim
  | exc x ρ' => rw [e] at q; exact q
  | ok d ρ' => rw [e] at q; exact fun v H' F' le rel' rp => q v σ H' F' le rel' rp
def sNx : SS := fun ρ => .ok .nx ρ
theorem d_pass : DS (GK X ex) X W (.Pass pos) sNx := wkS ps_pass fun D σ H ⟨ρ, F, Rv, io, rel, q⟩ => q σ H F (FLe.refl F) rel
theorem d_doc {x j pos pos'} : DS (GK X ex) X W (.Expr (.Constant (.str x) j pos) pos') sNx := wkS ps_doc fun D σ H ⟨ρ, F, Rv, io, rel, q⟩ => q σ H F (FLe.refl F) rel
def sSeq (a b : SS) : SS := fun ρ => (a ρ).bind fun f ρ' => match f with
  | .nx => b ρ'
  | f => .ok f ρ'
theorem SPost.le {G : Gx} {T : List (Addr × Str)} {io : Io T} {Rv F F1 : Hp} {r : R Fl} {D : Ends} (h : SPost G W io Rv F r D) (le : FLe F F1) : SPost G W io Rv F1 r D := by
  cases r with
  | stuck => exact h
  | exc x ρ' => exact XPost.le h le
  | ok f ρ' =>
    cases f with
    | nx => exact fun σ' H' F' l => h σ' H' F' (le.trans l)
    | bk => exact fun σ' H' F' l => h σ' H' F' (le.trans l)
    | ct => exact fun σ' H' F' l => h σ' H' F' (le.trans l)
    | rt d => exact fun v σ' H' F' l => h v σ' H' F' (le.trans l)
theorem d_snil : DSs (GK X ex) X W [] sNx := wkSs pss_nil fun D σ H ⟨ρ, F, Rv, io, rel, q⟩ => q σ H F (FLe.refl F) rel
theorem d_sone {st : Stmt} {s : SS} (h : DS (GK X ex) X W st s) : DSs (GK X ex) X W [st] s := pss_one h
theorem d_scons {st : Stmt} {rest : List Stmt} {s t : SS} (h : DS (GK X ex) X W st s) (h2 : DSs (GK X ex) X W rest t) : DSs (GK X ex) X W (st :: rest) (sSeq s t) := wkSs (pss_cons h h2) fun D σ H ⟨ρ, F, Rv, io, rel, q⟩ => by
  refine ⟨ρ, F, Rv, io, rel, ?_⟩
  unfold sSeq at q
  cases e : s ρ with
  | stuck => rw [e] at q; exact q.elim
  | exc x ρ' => rw [e] at q; exact q
  | ok f ρ' =>
    rw [e, R.bind_ok] at q
    cases f with
    | nx => exact fun σ' H' F' le rel' => ⟨ρ', F', Rv, io, rel', SPost.le q le⟩
    | bk => exact q
    | ct => exact q
    | rt d => exact q
def sIfS (t : ST) (a b : SS) : SS := fun ρ => (t ρ).bind fun k ρ' => match k with
  | true => a ρ'
  | false => b ρ'
theorem d_ifS {t : ST} {l r : List Stmt} {s u : SS} (hc : DT (GK X ex) X W c t) (h : DSs (GK X ex) X W l s) (h2 : DSs (GK X ex) X W r u) : DS (GK X ex) X W (.If c l r pos) (sIfS t s u) := wkS (ps_if hc h h2) fun D σ H ⟨ρ, F, Rv, io, rel, q⟩ => by
  refine ⟨ρ, F, Rv, io, rel, ?_⟩
  unfold sIfS at q
  cases e : t ρ with
  | stuck => rw [e] at q; exact q.elim
  | exc x ρ' => rw [e] at q; exact q
  | ok k ρ' =>
    rw [e, R.bind_ok] at q
    intro H' F' le rel'
    cases k with
    | true => exact iteT ⟨ρ', F', Rv, io, rel', SPost.le q le⟩
    | false => exact iteF ⟨ρ', F', Rv, io, rel', SPost.le q le⟩
/-- for .. in ..: one turn after another -/
def forGo (g : SG) (s : SS) : List D → SS
  | [], ρ => .ok .nx ρ
  | d :: ds, ρ => (g d ρ).bind fun _ ρ1 => (s ρ1).bind fun f ρ2 => match f with
    | .nx => forGo g s ds ρ2
    | .ct => forGo g s ds ρ2
    | .bk => .ok .nx ρ2
    | .rt d => .ok (.rt d) ρ2
def sFor (it : SA) (g : SG) (s : SS) : SS := fun ρ => (it ρ).bind fun ds ρ' => forGo g s ds ρ'
theorem d_for {iter : Expr} {body : List Stmt} {it : SA} {g : SG} {s : SS} {js : List Nat} (hu : At X W) (hp : PassesOwn (model X.prog X.w) X.A X.env X.xe) (hi : DI (GK X ex) X W tg iter it) (hg : DG (GK X ex) X W js tg g) (hb : DSs (GK X ex) X W body s)
    (hs : ∀ x, foldedSetIterable iter X.env x = pure x := by intro _; rfl) : DS (GK X ex) X W (.For tg iter body [] pos) (sFor it g s) := wkS (ps_for hp hu.calm hi hg hb hs) fun D σ H ⟨ρ, F, Rv, io, rel, q⟩ => by
  refine ⟨ρ, F, Rv, io, rel, ?_⟩
  unfold sFor at q
  cases e : it ρ with
  | stuck => rw [e] at q; exact q.elim
  | exc x ρ' => rw [e] at q; exact q
  | ok ds ρ1 =>
    rw [e, R.bind_ok] at q
    intro J H1 F1 le1 rel1 J1
    refine ⟨fun i m σ H => m = ds.length - i ∧ i ≤ ds.length ∧ ∃ (ρi : Env) (Fi : Hp), FLe F1 Fi ∧ Rel X.K io Rv ρi Fi σ H ∧ SPost (GK X ex) W io Rv Fi (forGo g s (ds.drop i) ρi) D, ⟨ds.length, rfl.trans (Nat.sub_zero _).symm, Nat.zero_le _, ρ1, F1, FLe.refl _, rel1, SPost.le q le1⟩, ?_⟩
    rintro i m σ H ⟨rfl, hi, ρi, Fi, lei, reli, qi⟩
    by_cases hlt : i < ds.length
    · obtain ⟨d, hd, hdr⟩ := drop_at hlt
      rw [hdr] at qi
      unfold forGo at qi
      refine .inr ⟨J1.go i Fi H lei reli.fH hlt, fun σ H => ∃ (ρi : Env) (Fi : Hp), FLe F1 Fi ∧ Rel X.K io Rv ρi Fi σ H ∧ SPost (GK X ex) W io Rv Fi (forGo g s (ds.drop (i + 1)) ρi) D, fun σ' H' z => ⟨ds.length - (i + 1), by omega, rfl, hlt, z⟩, fun xv H' y => ?_⟩
      obtain ⟨F2, nw, rp⟩ := J1.yld i Fi H H' xv d lei reli.fH hd y
      refine ⟨d, ρi, F2, Rv, io, reli.after nw, rp, ?_⟩
      cases e3 : g d ρi with
      | stuck => rw [e3] at qi; exact qi.elim
      | exc x ρ' => rw [e3] at qi; exact XPost.le qi nw.f
      | ok u ρ3 =>
        rw [e3, R.bind_ok] at qi
        intro σ3 H3 F3 le3 rel3 _
        refine ⟨ρ3, F3, Rv, io, rel3, ?_⟩
        cases e4 : s ρ3 with
        | stuck => rw [e4] at qi; exact qi.elim
        | exc x ρ' => rw [e4] at qi; exact XPost.le qi (nw.f.trans le3)
        | ok f ρ4 =>
          rw [e4, R.bind_ok] at qi
          have le := nw.f.trans le3
          cases f with
          | nx => exact fun σ4 H4 F4 le4 rel4 => ⟨ρ4, F4, lei.trans (le.trans le4), rel4, SPost.le qi (le.trans le4)⟩
          | ct => exact fun σ4 H4 F4 le4 rel4 => ⟨ρ4, F4, lei.trans (le.trans le4), rel4, SPost.le qi (le.trans le4)⟩
          | bk => exact fun σ4 H4 F4 le4 rel4 => qi σ4 H4 F4 (le.trans le4) rel4
          | rt d => exact fun v σ4 H4 F4 le4 rel4 => qi v σ4 H4 F4 (le.trans le4) rel4
    · have hi2 : i = ds.length := by omega
      subst hi2
      rw [List.drop_eq_nil_of_le (Nat.le_refl _)] at qi
      unfold forGo at qi
      exact .inl ⟨J1.stop Fi H lei reli.fH, qi σ H Fi (FLe.refl _) reli⟩
/-- while: at most so many turns -/
def sWhile (t : ST) (s : SS) : Nat → SS
  | 0, _ => .stuck
  | n + 1, ρ => (t ρ).bind fun k ρ1 => match k with
    | false => .ok .nx ρ1
    | true => (s ρ1).bind fun f ρ2 => match f with
      | .nx => sWhile t s n ρ2
      | .ct => sWhile t s n ρ2
      | .bk => .ok .nx ρ2
      | .rt d => .ok (.rt d) ρ2
theorem d_while {t : ST} {body : List Stmt} {s : SS} (n : Nat) (hp : PassesOwn (model X.prog X.w) X.A X.env X.xe) (hc : DT (GK X ex) X W c t) (hb : DSs (GK X ex) X W body s) : DS (GK X ex) X W (.While c body [] pos) (sWhile t s n) := wkS (ps_while hp hc hb) fun D σ H ⟨ρ, F, Rv, io, rel, q⟩ => by
  refine ⟨fun m σ H => ∃ (ρi : Env) (Fi : Hp), Rel X.K io Rv ρi Fi σ H ∧ SPost (GK X ex) W io Rv Fi (sWhile t s m ρi) D, ⟨n, ρ, F, rel, q⟩, ?_⟩
  rintro m σ H ⟨ρi, Fi, reli, qi⟩
  cases m with
  | zero => exact qi.elim
  | succ m =>
    unfold sWhile at qi
    refine ⟨ρi, Fi, Rv, io, reli, ?_⟩
    cases e : t ρi with
    | stuck => rw [e] at qi; exact qi.elim
    | exc x ρ' => rw [e] at qi; exact qi
    | ok k ρ1 =>
      rw [e, R.bind_ok] at qi
      intro H1 F1 le1 rel1
      cases k with
      | false => exact iteF (qi σ H1 F1 le1 rel1)
      | true =>
        refine iteT ⟨fun σ H => ∃ (ρi : Env) (Fi : Hp), Rel X.K io Rv ρi Fi σ H ∧ SPost (GK X ex) W io Rv Fi (sWhile t s m ρi) D, fun σ' H' z => ⟨m, Nat.lt_succ_self m, z⟩, ρ1, F1, Rv, io, rel1, ?_⟩
        have qi : SPost (GK X ex) W io Rv Fi ((s ρ1).bind fun f ρ2 => match f with
          | .nx => sWhile t s m ρ2
          | .ct => sWhile t s m ρ2
          | .bk => .ok .nx ρ2
          | .rt d => .ok (.rt d) ρ2) D := qi
        cases e4 : s ρ1 with
        | stuck => rw [e4] at qi; exact qi.elim
        | exc x ρ' => rw [e4] at qi; exact XPost.le qi le1
        | ok f ρ4 =>
          rw [e4, R.bind_ok] at qi
          cases f with
          | nx => exact fun σ4 H4 F4 le4 rel4 => ⟨ρ4, F4, rel4, SPost.le qi (le1.trans le4)⟩
          | ct => exact fun σ4 H4 F4 le4 rel4 => ⟨ρ4, F4, rel4, SPost.le qi (le1.trans le4)⟩
          | bk => exact fun σ4 H4 F4 le4 rel4 => qi σ4 H4 F4 (le1.trans le4) rel4
          | rt d => exact fun v σ4 H4 F4 le4 rel4 => qi v σ4 H4 F4 (le1.trans le4) rel4
end
end Dt

set_option Elab.async false
set_option linter.all false
set_option maxRecDepth 100000
set_option maxHeartbeats 2000000
/-! The judgements' rules: what a variable's own list or dict undergoes; calls; defs. -/
namespace Dt
open PySem PySem.Spec PyProof.Rows L2

section
variable {ex : Exx} {X : Cx} {W : WX} {a b c e o tg : Expr} {es : List Expr} {pos p : Pos} {sa sb sc : SO} {ea eb : SE} {sB : SB} {sA : SA} {x : Str} {id : String}

/-! ### x[k] = v -/
def dPut (ks : List Key) (ds : List D) (k : Key) (z : D) : List Key × List D :=
  if (ks.any fun k' => decide (k' = k)) = true then (ks, List.zipWith (fun k' d => if k' = k then z else d) ks ds) else (ks ++ [k], ds ++ [z])
theorem dPut_put {K : PySem.W.Frag} {F : Hp} {k : Key} {v : V} {z : D} (rv : Rp K F v z) {kvs : List (Key × V)} {ds : List D} (r : Rps K F (kvs.map (·.2)) ds) :
    ((putK kvs k v).map (·.1)) = (dPut (kvs.map (·.1)) ds k z).1 ∧ Rps K F ((putK kvs k v).map (·.2)) (dPut (kvs.map (·.1)) ds k z).2 := by
  unfold putK dPut
  rw [List.any_map]
  by_cases h : (kvs.any fun kv => decide (kv.1 = k)) = true
  · have h' : (kvs.any ((fun k' => decide (k' = k)) ∘ fun x => x.1)) = true := h
    rw [if_pos h, if_pos h']
    refine ⟨?_, ?_⟩
    · show List.map _ _ = List.map _ kvs
      rw [List.map_map]
      refine List.map_congr_left fun kv _ => ?_
      show (if kv.1 = k then (kv.1, v) else kv).1 = kv.1
      split <;> rfl
    · clear h h'
      induction kvs generalizing ds with
      | nil => cases r; exact .nil
      | cons kv kvs ih =>
        cases r with
        | cons r1 rr =>
          simp only [List.map_cons, List.zipWith_cons_cons]
          refine .cons ?_ (ih rr)
          split
          · exact rv
          · exact r1
  · have h' : ¬ (kvs.any ((fun k' => decide (k' = k)) ∘ fun x => x.1)) = true := h
    rw [if_neg h, if_neg h', List.map_append, List.map_append]
    exact ⟨rfl, r.append (.cons rv .nil)⟩
/-- the new content -/
def putD (d i z : D) : Option D := match d with
  | .lst xs => match i with
    | .int j => (ixN xs.length j).map fun n => .lst (xs.set n z)
    | _ => none
  | .dct ks ds => (keyOf i).bind fun k => if ks.length < sizeLine then some (.dct (dPut ks ds k z).1 (dPut ks ds k z).2) else none
  | _ => none
def rSetA : TSet := fun o i v H Q => rSetL o i v H Q ∨ ∃ a H', o = .ref a ∧ DPut H a i v H' ∧ Q H'
theorem set_any (hu : X.A.units + 64 < cLine) : PSet X rSetA := by
  intro pins s σ H o i v ov iv u Q I ro ri rv h
  rcases h with h | ⟨a, H', rfl, hp, q⟩
  · exact set_list pins s σ H o i v ov iv u Q I ro ri rv h
  · obtain rfl : ov = Value.ref a := ro
    exact d_setItem (by omega) I hp ri rv fun s' I' => ⟨H', I', q⟩
/-- the variable at i: its own list or dict, what it holds -/
def held (ρ : Env) (i : Nat) : Option D := (ρ[i]?).bind Cell.held
def put (ρ : Env) (i : Nat) (d : D) : Env := match ρ[i]? with
  | some c => ρ.set i (c.put d)
  | none => ρ
theorem put_own {G : Gx} {T : List (Addr × Str)} {io : Io T} {Rv F H : Hp} {ρ : Env} {σ : L2.St} {i : Nat} {d d' : D} (r : Rel G.K io Rv ρ F σ H) (h : held ρ i = some d) : ∃ p ob, σ[i]? = some (some (.ref p)) ∧ H p = some ob ∧ OwnObj G.K F p ob d ∧ ∀ ob', OwnObj G.K F p ob' d' → Rel G.K io Rv (put ρ i d') F σ (upd H p ob') := by
  unfold held at h
  cases e : ρ[i]? with
  | none => rw [e] at h; cases h
  | some c =>
    rw [e] at h
    have h : c.held = some d := h
    obtain ⟨p, e1, w⟩ := r.heldAt e h
    obtain ⟨ob, e2, e3⟩ := w.at_
    refine ⟨p, ob, e1, e2, e3, fun ob' ho => ?_⟩
    have q := r.write e h e1 ho
    unfold put
    rw [e]
    exact q
theorem putD_set {G : Gx} {F H : Hp} {d i z d' : D} {p : Addr} {ob : HO} {iv v : V} {Q : Hp → Prop} (fh : FLe F H) (hp : H p = some ob) (ho : OwnObj G.K F p ob d) (hi : Vw G.K F H iv i) (hv : Rp G.K F v z) (e : putD d i z = some d')
    (q : ∀ ob', OwnObj G.K F p ob' d' → Q (upd H p ob')) : rSetA (.ref p) iv v H Q := by
  cases d with
  | lst xs =>
    cases i with
    | int j =>
      obtain ⟨vs, rfl, r⟩ := ho
      simp only [putD] at e
      cases e2 : ixN xs.length j with
      | none => rw [e2] at e; cases e
      | some n =>
        rw [e2] at e
        cases e
        exact .inl ⟨p, vs, j, n, rfl, hi.int, hp, by rw [r.length]; exact e2, q _ ⟨_, rfl, r.set n hv⟩⟩
    | _ => simp only [putD] at e; cases e
  | dct ks ds =>
    obtain ⟨kvs, rfl, rfl, r⟩ := ho
    simp only [putD] at e
    cases e2 : keyOf i with
    | none => rw [e2] at e; cases e
    | some k =>
      rw [e2, Option.bind_some] at e
      split at e
      · rename_i hz
        cases e
        have ei := keyOf_vw hi e2
        subst ei
        obtain ⟨h1, h2⟩ := dPut_put (k := k) hv r
        exact .inr ⟨p, _, rfl, .inl ⟨kvs, k, hp, rfl, by simpa using hz, rfl⟩, q _ ⟨_, rfl, h1, h2⟩⟩
      · cases e
  | _ => simp only [putD] at e; cases e
/-- x[k] = ..; x is looked at ahead of k, changed behind it -/
def gPut (i : Nat) (sk : SO) : SG := fun z ρ => match held ρ i with
  | none => .stuck
  | some _ => (sk ρ).bind fun o ρ' => match held ρ' i, o.get ρ' with
    | some d, some k => match putD d k z with
      | some d' => .ok () (put ρ' i d')
      | none => .stuck
    | _, _ => .stuck
theorem d_gPut {i : Nat} (hu : At X W) (ho : PE X o (tVar i)) (hi : DO (GK X ex) X W e sa)
    (ha : ∀ v, assign (.Subscript o e pos) X.env v = (do
      let ov ← holding [v] (eval o X.env)
      let iv ← holding [v, ov] (eval e X.env)
      standAt pos
      holding [v, ov, iv] (setItem ov iv v)
      release [v, ov, iv] []) := by intro _; rfl) : DG (GK X ex) X W [] (.Subscript o e pos) (gPut i sa) :=
  wkG (pg_sub ho hi (set_any hu.un) ha) fun v σ H Q ⟨z, ρ, F, Rv, io, rel, rp, q⟩ => by
    unfold gPut at q
    cases e1 : held ρ i with
    | none => rw [e1] at q; exact q.elim
    | some d0 =>
      rw [e1] at q
      obtain ⟨p, ob, e2, e3, e4, _⟩ := put_own (G := GK X ex) (d' := d0) rel e1
      refine ⟨_, e2, ρ, F, Rv, io, rel, ?_⟩
      cases e5 : sa ρ with
      | stuck => rw [e5] at q; exact q.elim
      | exc x ρ' => rw [e5] at q; exact q
      | ok o' ρ' =>
        rw [e5] at q
        simp only [R.bind_ok] at q
        intro iv H' F' le rel' ok
        cases e6 : held ρ' i with
        | none => rw [e6] at q; exact q.elim
        | some d =>
          cases e7 : o'.get ρ' with
          | none => rw [e6, e7] at q; exact q.elim
          | some k =>
            rw [e6, e7] at q
            simp only at q
            cases e8 : putD d k z with
            | none => rw [e8] at q; exact q.elim
            | some d' =>
              rw [e8] at q
              obtain ⟨p', ob', e9, e10, e11, e12⟩ := put_own (G := GK X ex) (d' := d') rel' e6
              rw [e2] at e9
              cases e9
              exact putD_set (G := GK X ex) rel'.fH e10 e11 (rel'.view (G := GK X ex) ok e7) (rp.mono le) e8 fun ob2 h2 => q σ _ F' le (e12 ob2 h2) ⟨rfl, fun _ _ => rfl⟩

/-! ### x.append(e), x.pop(k), x.insert(k, e) -/
def heldL (ρ : Env) (i : Nat) : Option (List D) := match held ρ i with
  | some (.lst ds) => some ds
  | _ => none
theorem heldL_some {ρ : Env} {i : Nat} {ds : List D} (h : heldL ρ i = some ds) : held ρ i = some (.lst ds) := by
  unfold heldL at h
  split at h
  · rename_i e; cases h; exact e
  · cases h
/-- a method that changes a list: the result and the new content -/
def sMut (i : Nat) (f : List D → List D → Option (D × List D)) (s : SA) : SE := fun ρ => match heldL ρ i with
  | none => .stuck
  | some _ => (s ρ).bind fun es ρ' => match heldL ρ' i with
    | none => .stuck
    | some ds => match f ds es with
      | some r => .ok r.1 (put ρ' i (.lst r.2))
      | none => .stuck
/-- the rule r changes lists so -/
def LMut (G : Gx) (r : V → List V → Hp → VK → Prop) (f : List D → List D → Option (D × List D)) : Prop := ∀ F H p vs ds xs es z ds' (Q : VK), FLe F H → H p = some (.lst vs) → Rps G.K F vs ds → Rps G.K F xs es → f ds es = some (z, ds') →
  (∀ v vs', Rp G.K F v z → Rps G.K F vs' ds' → Q v (upd H p (.lst vs'))) → r (.ref p) xs H Q
theorem mut_core {i : Nat} {f : List D → List D → Option (D × List D)} {r : V → List V → Hp → VK → Prop} {σ : L2.St} {H : Hp} {Q : VK} (hf : LMut (GK X ex) r f)
    (h : tE (GK X ex) W (sMut i f sA) σ H Q) : tBM X.K "list" r (tVar i) (tA (GK X ex) W sA) σ H Q := by
  obtain ⟨ρ, F, Rv, io, rel, q⟩ := h
  unfold sMut at q
  cases e1 : heldL ρ i with
  | none => rw [e1] at q; exact q.elim
  | some ds0 =>
    rw [e1] at q
    obtain ⟨p, ob, e2, e3, e4, _⟩ := put_own (G := GK X ex) (d' := .lst ds0) rel (heldL_some e1)
    obtain ⟨vs0, rfl, r0⟩ := e4
    refine ⟨_, e2, .inl ⟨rfl, _, SqL.of e3⟩, ρ, F, Rv, io, rel, ?_⟩
    cases e5 : sA ρ with
    | stuck => rw [e5] at q; exact q.elim
    | exc x ρ' => rw [e5] at q; exact q
    | ok es ρ' =>
      rw [e5] at q
      simp only [R.bind_ok] at q
      intro xs H' F' le rel' rx
      cases e6 : heldL ρ' i with
      | none => rw [e6] at q; exact q.elim
      | some ds =>
        rw [e6] at q
        cases e8 : f ds es with
        | none => simp only [e8] at q
        | some z =>
          simp only [e8] at q
          obtain ⟨p', ob', e9, e10, e11, e12⟩ := put_own (G := GK X ex) (d' := .lst z.2) rel' (heldL_some e6)
          rw [e2] at e9
          cases e9
          obtain ⟨vs, rfl, r1⟩ := e11
          exact hf F' H' p vs ds xs es z.1 z.2 Q rel'.fH e10 r1 rx e8 fun v vs' rv rvs => q v _ F' le (e12 _ ⟨_, rfl, rvs⟩) rv
def mAppend (ds es : List D) : Option (D × List D) := match es with
  | [d] => if ds.length < sizeLine then some (.non, ds ++ [d]) else none
  | _ => none
theorem lmut_append {G : Gx} : LMut G rAppend mAppend := fun F H p vs ds xs es z ds' Q fh hp r rx e q => by
  unfold mAppend at e
  split at e
  · split at e
    · rename_i hz
      cases e
      cases rx with
      | cons a b => cases b; exact ⟨p, vs, _, rfl, rfl, hp, by rw [r.length]; exact hz, q _ _ .non (r.append (.cons a .nil))⟩
    · cases e
  · cases e
def mPop (ds es : List D) : Option (D × List D) := match es with
  | [.int i] => if -(2 ^ 63) ≤ i ∧ i < 2 ^ 63 then (seqIndex? i ds.length).bind fun k => (ds[k]?).map fun d => (d, ds.eraseIdx k) else none
  | _ => none
theorem lmut_pop {G : Gx} : LMut G rPopAt mPop := fun F H p vs ds xs es z ds' Q fh hp r rx e q => by
  unfold mPop at e
  split at e
  · rename_i i
    split at e
    · rename_i hb
      cases e2 : seqIndex? i ds.length with
      | none => rw [e2] at e; cases e
      | some k =>
        rw [e2, Option.bind_some] at e
        cases e3 : ds[k]? with
        | none => rw [e3] at e; cases e
        | some d =>
          rw [e3] at e
          cases e
          obtain ⟨v, e4, rv⟩ := r.get e3
          cases rx with
          | cons a b => cases b; cases a; exact ⟨p, vs, i, k, v, rfl, rfl, hp, hb.1, hb.2, by rw [r.length]; exact e2, e4, q _ _ rv (r.eraseIdx k)⟩
    · cases e
  · cases e
theorem d_mut {i : Nat} {name : Str} {apos cpos : Pos} {r : V → List V → Hp → VK → Prop} {f : List D → List D → Option (D × List D)} (slot : Slot "list" name id) (hty : typeOf (.builtin id) = pure (.type "method_descriptor")) (hm : MtR X id r) (hf : LMut (GK X ex) r f)
    (ho : PE X o (tVar i)) (ha : DA (GK X ex) X W (e :: es) sA) (hbase : attributeBase o name X.env (eval o X.env) = eval o X.env := by rfl)
    (hfew : ((backTo cpos (starEach (e :: es) X.env)).all (fun x => !x.1) && (backToKw cpos (keywordEach [] X.env)).all (fun x => x.1.isSome)
      && decide ((e :: es).length + ([] : List Keyword).length + (if ([] : List Keyword).isEmpty then 0 else 1) < 30)) = true := by rfl)
    (hline : (apos.endLine == cpos.line) = true := by rfl) (hs : starEach (e :: es) X.env = (false, eval e X.env) :: starEach es X.env := by rfl) (hplain : (backTo cpos (starEach es X.env)).any (·.1) = false := by rfl) :
    DE (GK X ex) X W (.Call (.Attribute o name apos) (e :: es) [] cpos) (sMut i f sA) :=
  wkE (pe_bm PySem.F.plainAttrs_list slot hty hm ho ha hbase hfew hline hs hplain) fun σ H Q h => mut_core hf h

/-! ### calls -/
structure Apart (F Rv H : Hp) : Prop where
  f : FLe F H
  r : FLe Rv H
  d : ∀ a o, F a = some o → Rv a = none
  nt : NoTb F
/-- a def that computes g on frozen data -/
def spP (G : Gx) (n : Nat) (g : List D → FR) : Sp := fun vs H Q E => ∃ ds F Rv, vs.length = n ∧ Apart F Rv H ∧ Rps G.K F vs ds ∧ match g ds with
  | .ok d _ => ∀ v H' F', FLe F F' → Apart F' Rv H' → Rp G.K F' v d → Q v H'
  | .exc x => ∀ cls dd H' F', FLe F F' → Apart F' Rv H' → XR G F' x cls dd H' → E cls dd H'
  | .stuck => False
/-- .. on a list or dict that it is lent first, and on frozen data -/
def spI (G : Gx) (n : Nat) (g : List D → FR) : Sp := fun vs H Q E => ∃ p ws d0 ds F Rv, vs = .ref p :: ws ∧ vs.length = n ∧ Apart F Rv H ∧ OwnAt G.K F Rv H p d0 ∧ Rps G.K F ws ds ∧ match g (d0 :: ds) with
  | .ok d [z] => ∀ v H' F', FLe F F' → Apart F' Rv H' → OwnAt G.K F' Rv H' p z → Rp G.K F' v d → Q v H'
  | _ => False
def endP (r : FR) (ρ : Env) : R D := match r with
  | .ok d _ => .ok d ρ
  | .exc x => .exc x ρ
  | .stuck => .stuck
def sCallP (n : Nat) (g : List D → FR) (s : SA) : SE := fun ρ => (s ρ).bind fun ds ρ' => if ds.length = n then endP (g ds) ρ' else .stuck
def endI (i : Nat) (r : FR) (ρ : Env) : R D := match r with
  | .ok d [z] => .ok d (put ρ i z)
  | _ => .stuck
/-- the first argument is the variable at i, which it is lent -/
def sCallI (i n : Nat) (g : List D → FR) (s : SA) : SE := fun ρ => match held ρ i with
  | none => .stuck
  | some _ => (s ρ).bind fun ds ρ' => match held ρ' i with
    | none => .stuck
    | some d0 => if ds.length + 1 = n then endI i (g (d0 :: ds)) ρ' else .stuck
section
variable {K : PySem.W.Frag} {T : List (Addr × Str)} {io : Io T} {Rv : Hp} {ρ : Env} {F F' : Hp} {σ : L2.St} {H H' : Hp}
/-- all that is not frozen, but p -/
def restOf (F H : Hp) (p : Option Addr) : Hp := fun a => if F a = none ∧ p ≠ some a then H a else none
theorem restOf_le (p : Option Addr) : FLe (restOf F H p) H := fun a o e => by
  unfold restOf at e
  split at e
  · exact e
  · cases e
theorem restOf_apart (r : Rel K io Rv ρ F σ H) (p : Option Addr) : Apart F (restOf F H p) H := ⟨r.fH, restOf_le p, (fun a o e => by
  unfold restOf
  rw [if_neg (fun z => by rw [e] at z; cases z.1)]), r.nt⟩
theorem Rel.behind (r : Rel K io Rv ρ F σ H) (le : FLe F F') (ap : Apart F' (restOf F H none) H') : Rel K io Rv ρ F' σ H' := by
  have keep : ∀ {a o}, F a = none → H a = some o → H' a = some o ∧ F' a = none := fun {a o} n e => by
    have q : restOf F H none a = some o := by
      unfold restOf
      rw [if_pos ⟨n, by intro z; cases z⟩]
      exact e
    refine ⟨ap.r _ _ q, ?_⟩
    cases e' : F' a with
    | none => rfl
    | some u => have z := ap.d a u e'; rw [q] at z; cases z
  have nF : ∀ {a o}, Rv a = some o → F a = none := fun {a o} e => by
    cases e' : F a with
    | none => rfl
    | some u => have z := r.dj a u e'; rw [e] at z; cases z
  refine ⟨ap.f, fun a o e => (keep (nF e) (r.rH a o e)).1, fun a o e => ?_, r.len, fun i c v e1 e2 => ?_, r.inj, r.ios, r.ioc, fun t ht => let q := r.tab t ht; let ⟨ps, ep⟩ := q.tbl; q.mv (keep q.1 ep).2 q.2.1 (fun ps e => (keep q.1 e).1) le q.nR, ap.nt⟩
  · cases e' : Rv a with
    | none => rfl
    | some u => have z := (keep (nF e') (r.rH a u e')).2; rw [e] at z; cases z
  · have q := r.cell i c v e1 e2
    have own : ∀ {p d}, OwnAt K F Rv H p d → OwnAt K F' Rv H' p d := fun {p d} w => by
      obtain ⟨o, e, h⟩ := w.at_
      obtain ⟨k1, k2⟩ := keep w.nF e
      exact ⟨k2, w.nR, o, k1, h.mono le⟩
    cases c with
    | no => trivial
    | fro d => obtain ⟨x, e, q⟩ := q; exact ⟨x, e, q.mono le⟩
    | own d => obtain ⟨p, e, q⟩ := q; exact ⟨p, e, own q⟩
    | io d => obtain ⟨p, e, q⟩ := q; exact ⟨p, e, own q⟩
theorem Rel.behindI (r : Rel K io Rv ρ F σ H) {i : Nat} {c : Cell} {d0 z : D} {p : Addr} (hc : ρ[i]? = some c) (hh : c.held = some d0) (hp : σ[i]? = some (some (.ref p))) (le : FLe F F') (ap : Apart F' (restOf F H (some p)) H') (ow : OwnAt K F' (restOf F H (some p)) H' p z) :
    Rel K io Rv (ρ.set i (c.put z)) F' σ H' := by
  have keep : ∀ {a o}, a ≠ p → F a = none → H a = some o → H' a = some o ∧ F' a = none := fun {a o} ne n e => by
    have q : restOf F H (some p) a = some o := by
      unfold restOf
      rw [if_pos ⟨n, by intro z; cases z; exact ne rfl⟩]
      exact e
    refine ⟨ap.r _ _ q, ?_⟩
    cases e' : F' a with
    | none => rfl
    | some u => have z := ap.d a u e'; rw [q] at z; cases z
  obtain ⟨p', e1, w⟩ := r.heldAt hc hh
  rw [hp] at e1; cases e1
  have hil : i < ρ.length := (List.getElem?_eq_some_iff.mp hc).1
  have nF : ∀ {a o}, Rv a = some o → F a = none := fun {a o} e => by
    cases e' : F a with
    | none => rfl
    | some u => have z := r.dj a u e'; rw [e] at z; cases z
  have nP : ∀ {a o}, Rv a = some o → a ≠ p := fun {a o} e z => by subst z; rw [w.nR] at e; cases e
  have hp2 : (c.put z).held = some z := by cases c <;> first | rfl | cases hh
  refine ⟨ap.f, fun a o e => (keep (nP e) (nF e) (r.rH a o e)).1, fun a o e => ?_, by rw [List.length_set]; exact r.len, fun j cj v e1 e2 => ?_, fun j k cj ck dj dk q h1 h2 h3 h4 h5 h6 => ?_, fun ip hip => ?_, fun j d' e => ?_, fun t ht => let q := r.tab t ht; let ⟨ps, ep⟩ := q.tbl; q.mv (keep (own_ne w ep) q.1 ep).2 q.2.1 (fun ps e => (keep (own_ne w e) q.1 e).1) le q.nR, ap.nt⟩
  · cases e' : Rv a with
    | none => rfl
    | some u => have z := (keep (nP e') (nF e') (r.rH a u e')).2; rw [e] at z; cases z
  · by_cases hj : i = j
    · subst hj
      rw [List.getElem?_set_self hil] at e1
      cases e1
      rw [hp] at e2; cases e2
      have own : OwnAt K F' Rv H' p z := ⟨ow.nF, w.nR, ow.at_⟩
      cases c with
      | no => cases hh
      | fro _ => cases hh
      | own _ => exact ⟨p, rfl, own⟩
      | io _ => exact ⟨p, rfl, own⟩
    · rw [List.getElem?_set_ne hj] at e1
      have q := r.cell j cj v e1 e2
      have own : ∀ {p' dj}, cj.held = some dj → v = some (.ref p') → OwnAt K F Rv H p' dj → OwnAt K F' Rv H' p' dj := fun {p' dj} h3 h4 w' => by
        have ne : p' ≠ p := fun z => by
          subst z
          rw [h4] at e2
          exact hj (r.inj i j c cj d0 dj p' hc e1 hh h3 hp e2)
        obtain ⟨o, e, h⟩ := w'.at_
        obtain ⟨k1, k2⟩ := keep ne w'.nF e
        exact ⟨k2, w'.nR, o, k1, h.mono le⟩
      cases cj with
      | no => trivial
      | fro d => obtain ⟨x, e, q⟩ := q; exact ⟨x, e, q.mono le⟩
      | own dj => obtain ⟨p', e, q⟩ := q; exact ⟨p', e, own rfl e q⟩
      | io dj => obtain ⟨p', e, q⟩ := q; exact ⟨p', e, own rfl e q⟩
  · have old : ∀ {j : Nat} {cj : Cell} {dj : D}, (ρ.set i (c.put z))[j]? = some cj → cj.held = some dj → ∃ cj' dj', ρ[j]? = some cj' ∧ cj'.held = some dj' := fun {j cj dj} e1 e2 => by
      by_cases hj : i = j
      · subst hj; exact ⟨c, d0, hc, hh⟩
      · rw [List.getElem?_set_ne hj] at e1; exact ⟨cj, dj, e1, e2⟩
    obtain ⟨_, _, g1, g2⟩ := old h1 h3
    obtain ⟨_, _, g3, g4⟩ := old h2 h4
    exact r.inj j k _ _ _ _ q g1 g3 g2 g4 h5 h6
  · obtain ⟨⟨d', e1⟩, e2⟩ := r.ios ip hip
    refine ⟨?_, e2⟩
    by_cases hj : i = ip.1
    · subst hj
      rw [hc] at e1; cases e1
      exact ⟨z, by rw [List.getElem?_set_self hil]; rfl⟩
    · exact ⟨d', by rw [List.getElem?_set_ne hj]; exact e1⟩
  · by_cases hj : i = j
    · subst hj
      rw [List.getElem?_set_self hil] at e
      cases c with
      | no => cases hh
      | fro _ => cases hh
      | own _ => cases e
      | io d'' => exact r.ioc i d'' hc
    · rw [List.getElem?_set_ne hj] at e; exact r.ioc j d' e
end
/-- a def that may be called by its name -/
structure Cal (P : Program) (w : World) (K : PySem.W.Frag) (mg : Str → Option Value) (base : Heap) (x : Str) (k : Nat) (sp : Sp) : Prop where
  there : ∃ f fd ps, FnOk P w K mg base (L2N.CX P w) k f fd ps sp ∧ mg x = some (.ref f) ∧ PySem.W.keepIn K (.ref f) = true ∧ Binds K fd ps []
/-- a def of the text as it stands -/
structure Fn (K : PySem.W.Frag) (mg : Str → Option Value) (x : Str) (st : Stmt) (ps : List Str) : Prop where
  there : ∃ f fd, Fun K x x st f fd ∧ mg x = some (.ref f) ∧ Binds K fd ps []
theorem Cal.mono {P : Program} {w : World} {K : PySem.W.Frag} {mg : Str → Option Value} {base : Heap} {x : Str} {j k : Nat} {sp : Sp} (C : Cal P w K mg base x j sp) (h : j ≤ k) : Cal P w K mg base x k sp := by
  obtain ⟨f, fd, ps, F, r⟩ := C.there
  exact ⟨f, fd, ps, F.mono h, r⟩
variable {f : Addr} {fd : FuncData} {ps : List Str} {k n : Nat} {g : List D → FR}
theorem d_callP (hu : At X W) (C : Cal X.prog X.w X.K X.mg X.base x k (spP (GK X ex) n g)) (hr : Room k X.A) (hg : Gl X x)
    (ha : DA (GK X ex) X W (e :: es) sA) (hdb : (x == ("__debug__" : Str)) = false := by decide) (he : starEach (e :: es) X.env = (false, eval e X.env) :: starEach es X.env := by rfl) (hpl : (backTo pos (starEach es X.env)).any (·.1) = false := by rfl) :
    DE (GK X ex) X W (.Call (.Name x p) (e :: es) [] pos) (sCallP n g sA) :=
  let ⟨f, fd, ps, F, hm, hk, hb⟩ := C.there
  wkE (pe_callS (E := WE W) F hr hg hm hk hb (fun σ => L2N.passAt hu.tk σ) ha hdb he hpl) fun σ H Q ⟨ρ, F, Rv, io, rel, q⟩ => by
    refine ⟨ρ, F, Rv, io, rel, ?_⟩
    unfold sCallP at q
    cases e : sA ρ with
    | stuck => rw [e] at q; exact q.elim
    | exc x ρ' => rw [e] at q; exact q
    | ok ds ρ' =>
      rw [e, R.bind_ok] at q
      intro vs H1 F1 le rel1 r
      by_cases hn : ds.length = n
      · rw [if_pos hn] at q
        refine ⟨ds, F1, restOf F1 H1 none, r.length.trans hn, restOf_apart rel1 none, r, ?_⟩
        cases e2 : g ds with
        | stuck => rw [e2] at q; exact q.elim
        | ok d o => rw [e2] at q; exact fun v H' F' le2 ap rp => q v H' F' (le.trans le2) (rel1.behind le2 ap) rp
        | exc x => rw [e2] at q; exact fun cls dd H' F' le2 ap xr => q cls dd σ H' F' (le.trans le2) (rel1.behind le2 ap) xr
      · rw [if_neg hn] at q; exact q.elim
theorem d_callI {i : Nat} (hu : At X W) (C : Cal X.prog X.w X.K X.mg X.base x k (spI (GK X ex) n g)) (hr : Room k X.A) (hg : Gl X x)
    (ho : PE X e (tVar i)) (ha : DA (GK X ex) X W es sA) (hdb : (x == ("__debug__" : Str)) = false := by decide) (he : starEach (e :: es) X.env = (false, eval e X.env) :: starEach es X.env := by rfl) (hpl : (backTo pos (starEach es X.env)).any (·.1) = false := by rfl) :
    DE (GK X ex) X W (.Call (.Name x p) (e :: es) [] pos) (sCallI i n g sA) :=
  let ⟨f, fd, ps, F, hm, hk, hb⟩ := C.there
  wkE (pe_callS (E := WE W) F hr hg hm hk hb (fun σ => L2N.passAt hu.tk σ) (pa_cons ho ha he) hdb he hpl) fun σ H Q ⟨ρ, F, Rv, io, rel, q⟩ => by
    unfold sCallI at q
    cases e0 : held ρ i with
    | none => rw [e0] at q; exact q.elim
    | some d00 =>
      rw [e0] at q
      obtain ⟨p0, _, e1, _⟩ := put_own (G := GK X ex) (d' := d00) rel e0
      refine ⟨_, e1, ρ, F, Rv, io, rel, ?_⟩
      cases e : sA ρ with
      | stuck => rw [e] at q; exact q.elim
      | exc x ρ' => rw [e] at q; exact q
      | ok ds ρ' =>
        rw [e] at q
        simp only [R.bind_ok] at q
        intro vs H1 F1 le rel1 r
        cases e2 : held ρ' i with
        | none => rw [e2] at q; exact q.elim
        | some d0 =>
          rw [e2] at q
          by_cases hn : ds.length + 1 = n
          · simp only [if_pos hn] at q
            obtain ⟨c, hc, hh⟩ : ∃ c, ρ'[i]? = some c ∧ c.held = some d0 := by
              unfold held at e2
              cases e3 : ρ'[i]? with
              | none => rw [e3] at e2; cases e2
              | some c => rw [e3] at e2; exact ⟨c, rfl, e2⟩
            obtain ⟨p', e4, w⟩ := rel1.heldAt hc hh
            rw [e1] at e4
            cases e4
            have nR : restOf F1 H1 (some p0) p0 = none := by unfold restOf; rw [if_neg (fun z => z.2 rfl)]
            refine ⟨p0, vs, d0, ds, F1, restOf F1 H1 (some p0), rfl, by rw [List.length_cons, r.length]; exact hn, restOf_apart rel1 _, ⟨w.nF, nR, w.at_⟩, r, ?_⟩
            cases e5 : g (d0 :: ds) with
            | stuck => rw [e5] at q; exact q.elim
            | exc x => rw [e5] at q; exact q.elim
            | ok d o =>
              rw [e5] at q
              match o, q with
              | [], q => exact q.elim
              | [z], q =>
                refine fun v H' F' le2 ap ow rp => q v H' F' (le.trans le2) ?_ rp
                have z1 := rel1.behindI hc hh e1 le2 ap ow
                unfold put
                rw [hc]
                exact z1
              | _ :: _ :: _, q => exact q.elim
          · simp only [if_neg hn] at q

/-- a def by its body, whatever is asked of exceptions -/
theorem okN {P : Program} {w : World} {K : PySem.W.Frag} {mg : Str → Option Value} {base : Heap} {CX : CXT} {x qual : Str} {st : Stmt} {f : Addr} {fd : FuncData} {N ps : List Str} {k : Nat} {sp : Sp} (F : Fun K x qual st f fd)
    (S : FnScope N ps (defScope st)) (len : ∀ vs H Q E, sp vs H Q E → vs.length = ps.length)
    (body : ∀ (cd : Value) (A : Around) (out : List PySem.Env) (s : Shared) (H : Hp) (vs : List V) (Q : VK) (E : XK), Room k (A.deeper (envOfC qual (defScope st) s.heap.objs.size f cd)) → sp vs H Q E →
      ∃ t, PSs (cxOf CX P w K mg base N qual (defScope st) f cd A out s H E) (defBody st) t ∧ t { nx := fun _ H' => Q .non H', rt := Q } (L2.start N vs) H) : FnOk P w K mg base CX (k + 1) f fd ps sp := by
  obtain ⟨_, _, _, _, _, _, cd, _, _, e, l, c⟩ := F.ex; subst e
  exact fn_of l c S len (body cd)
/-! ### defs -/
def runP (m n : Nat) (body : SS) : List D → FR := fun ds => match body (ds.map Cell.fro ++ List.replicate (m - n) Cell.no) with
  | .ok (.rt d) _ => .ok d []
  | .ok .nx _ => .ok .non []
  | .exc x _ => .exc x
  | _ => .stuck
def lastIo (ρ : Env) : List D := match (ρ[0]? : Option Cell) with
  | some (.io d) => [d]
  | _ => []
def runI (m n : Nat) (body : SS) : List D → FR := fun ds => match ds with
  | [] => .stuck
  | d0 :: ds => match body (Cell.io d0 :: ds.map Cell.fro ++ List.replicate (m - n) Cell.no) with
    | .ok (.rt d) ρ => .ok d (lastIo ρ)
    | .ok .nx ρ => .ok .non (lastIo ρ)
    | _ => .stuck
section
variable {P : Program} {w : World} {K : PySem.W.Frag} {mg : Str → Option Value} {base : Heap}
abbrev wE (E : XK) : WX := fun cls d _ H => E cls d H
abbrev cx (P : Program) (w : World) (K : PySem.W.Frag) (mg : Str → Option Value) (base : Heap) (N : List Str) (qual : Str) (st : Stmt) (f : Addr) (cdv : Value) (A : Around) (outer : List PySem.Env) (s : Shared) (H : Hp) (E : XK) : Cx := cxOf (L2N.CX P w) P w K mg base N qual (defScope st) f cdv A outer s H E
theorem at_def {N ps : List Str} {qual : Str} {st : Stmt} {f : Addr} {cdv : Value} {A : Around} {outer : List PySem.Env} {s : Shared} {H : Hp} {E : XK} {k : Nat} (S : FnScope N ps (defScope st)) (hr : Room k (A.deeper (envOfC qual (defScope st) s.heap.objs.size f cdv))) :
    At (cxOf (L2N.CX P w) P w K mg base N qual (defScope st) f cdv A outer s H E) (wE E) := ⟨rfl, S.nd, hr.units, L2N.takes_of rfl rfl rfl rfl⟩
theorem cells_start {F : Hp} : ∀ {vs : List V} {ds : List D}, Rps K F vs ds → ∀ {m n : Nat} {Rv H : Hp} (i : Nat) (c : Cell) (v : Option V), (ds.map Cell.fro ++ List.replicate m Cell.no)[i]? = some c → (vs.map some ++ List.replicate m none)[i]? = some v → CellOk K F Rv H v c
  | _, _, .nil, m, n, Rv, H, i, c, v, e1, e2 => by
    simp only [List.map_nil, List.nil_append] at e1
    rw [List.getElem?_replicate] at e1
    split at e1
    · cases e1; trivial
    · cases e1
  | _, _, .cons a b, m, n, Rv, H, 0, c, v, e1, e2 => by
    simp at e1 e2
    subst e1 e2
    exact ⟨_, rfl, a⟩
  | _, _, .cons a b, m, n, Rv, H, i + 1, c, v, e1, e2 => cells_start b (n := n) i c v (by simpa using e1) (by simpa using e2)
theorem fro_held {ds : List D} {m i : Nat} {c : Cell} (e : (ds.map Cell.fro ++ List.replicate m Cell.no)[i]? = some c) : c.held = none := by
  rw [List.getElem?_append] at e
  split at e
  · rw [List.getElem?_map] at e
    cases e2 : ds[i]? with
    | none => rw [e2] at e; cases e
    | some d => rw [e2] at e; cases e; rfl
  · rw [List.getElem?_replicate] at e
    split at e
    · cases e; rfl
    · cases e
theorem rel_start {F Rv H : Hp} {vs : List V} {ds : List D} {m : Nat} (ap : Apart F Rv H) (r : Rps K F vs ds) : Rel K ({} : Io []) Rv (ds.map Cell.fro ++ List.replicate m Cell.no) F (vs.map some ++ List.replicate m none) H := by
  refine ⟨ap.f, ap.r, ap.d, by simp [r.length], fun i c v e1 e2 => cells_start r (n := 0) i c v e1 e2, fun i j ci cj di dj p e1 e2 h1 h2 _ _ => ?_, fun ip hip => (nomatch hip), fun i d e => ?_, (fun t ht => (nomatch ht)), ap.nt⟩
  · rw [fro_held e1] at h1; cases h1
  · have z := fro_held e; cases z
theorem rel_startI {F Rv H : Hp} {p : Addr} {d0 : D} {vs : List V} {ds : List D} {m : Nat} (ap : Apart F Rv H) (ow : OwnAt K F Rv H p d0) (r : Rps K F vs ds) :
    Rel K ({ l := [(0, p)] } : Io []) Rv (Cell.io d0 :: (ds.map Cell.fro ++ List.replicate m Cell.no)) F (some (.ref p) :: (vs.map some ++ List.replicate m none)) H := by
  have r0 := rel_start (m := m) ap r
  refine ⟨ap.f, ap.r, ap.d, by simp [r.length], fun i c v e1 e2 => ?_, fun i j ci cj di dj q e1 e2 h1 h2 _ _ => ?_, fun ip hip => ?_, fun i d e => ?_, (fun t ht => (nomatch ht)), ap.nt⟩
  · cases i with
    | zero => simp at e1 e2; subst e1 e2; exact ⟨p, rfl, ow⟩
    | succ i => exact r0.cell i c v (by simpa using e1) (by simpa using e2)
  · have z : ∀ {i : Nat} {c : Cell} {d : D}, (Cell.io d0 :: (ds.map Cell.fro ++ List.replicate m Cell.no))[i]? = some c → c.held = some d → i = 0 := fun {i c d} e h => by
      cases i with
      | zero => rfl
      | succ i => rw [fro_held (by simpa using e)] at h; cases h
    rw [z e1 h1, z e2 h2]
  · obtain rfl : ip = (0, p) := List.mem_singleton.mp hip
    exact ⟨⟨d0, rfl⟩, rfl⟩
  · cases i with
    | zero => exact ⟨p, List.mem_singleton.mpr rfl⟩
    | succ i => have z := fro_held (c := .io d) (by simpa using e); cases z
theorem d_defP {x qual : Str} {st : Stmt} {f : Addr} {fd : FuncData} {N ps : List Str} {k : Nat} {body : SS} (ea : String → Addr) (F : Fun K x qual st f fd) (S : FnScope N ps (defScope st))
    (h : ∀ (cdv : Value) (A : Around) (outer : List PySem.Env) (s : Shared) (H : Hp) (E : XK), Room k (A.deeper (envOfC qual (defScope st) s.heap.objs.size f cdv)) →
      DSs ⟨K, ⟨ea, []⟩⟩ (cxOf (L2N.CX P w) P w K mg base N qual (defScope st) f cdv A outer s H E) (wE E) (defBody st) body) : FnOk P w K mg base (L2N.CX P w) (k + 1) f fd ps (spP ⟨K, ⟨ea, []⟩⟩ ps.length (runP N.length ps.length body)) := by
  refine okN F S (fun vs H Q E ⟨_, _, _, hl, _⟩ => hl) fun cdv A outer s H vs Q E hr ⟨ds, F0, Rv, hl, ap, r, q⟩ => ⟨_, h cdv A outer s H E hr, ?_⟩
  have e0 : L2.start N vs = vs.map some ++ List.replicate (N.length - ps.length) none := by unfold L2.start; rw [hl]
  rw [e0]
  refine ⟨_, F0, Rv, {}, rel_start ap r, ?_⟩
  unfold runP at q
  cases e : body (ds.map Cell.fro ++ List.replicate (N.length - ps.length) Cell.no) with
  | stuck => rw [e] at q; exact q.elim
  | exc x ρ' => rw [e] at q; exact fun cls dd σ' H' F' le rel xr => q cls dd H' F' le ⟨rel.fH, rel.rH, rel.dj, rel.nt⟩ xr
  | ok fl ρ' =>
    rw [e] at q
    cases fl with
    | nx => exact fun σ' H' F' le rel => q _ H' F' le ⟨rel.fH, rel.rH, rel.dj, rel.nt⟩ .non
    | bk => exact q.elim
    | ct => exact q.elim
    | rt d => exact fun v σ' H' F' le rel rp => q v H' F' le ⟨rel.fH, rel.rH, rel.dj, rel.nt⟩ rp
theorem d_defI {x qual : Str} {st : Stmt} {f : Addr} {fd : FuncData} {N ps : List Str} {k : Nat} {body : SS} (ea : String → Addr) (F : Fun K x qual st f fd) (S : FnScope N ps (defScope st)) (h0 : 0 < ps.length)
    (h : ∀ (cdv : Value) (A : Around) (outer : List PySem.Env) (s : Shared) (H : Hp) (E : XK), Room k (A.deeper (envOfC qual (defScope st) s.heap.objs.size f cdv)) →
      DSs ⟨K, ⟨ea, []⟩⟩ (cxOf (L2N.CX P w) P w K mg base N qual (defScope st) f cdv A outer s H E) (wE E) (defBody st) body) : FnOk P w K mg base (L2N.CX P w) (k + 1) f fd ps (spI ⟨K, ⟨ea, []⟩⟩ ps.length (runI N.length ps.length body)) := by
  refine okN F S (fun vs H Q E ⟨_, _, _, _, _, _, _, hl, _⟩ => hl) fun cdv A outer s H vs Q E hr ⟨p, ws, d0, ds, F0, Rv, hv, hl, ap, ow, r, q⟩ => ⟨_, h cdv A outer s H E hr, ?_⟩
  have e0 : L2.start N vs = some (.ref p) :: (ws.map some ++ List.replicate (N.length - ps.length) none) := by unfold L2.start; rw [hl, hv]; rfl
  rw [e0]
  refine ⟨_, F0, Rv, { l := [(0, p)] }, rel_startI ap ow r, ?_⟩
  unfold runI at q
  have fin : ∀ {ρ' : Env} {σ' : L2.St} {H' F' : Hp} {z : D}, Rel K ({ l := [(0, p)] } : Io []) Rv ρ' F' σ' H' → lastIo ρ' = [z] → OwnAt K F' Rv H' p z := fun {ρ' σ' H' F' z} rel e => by
    obtain ⟨⟨d, e1⟩, e2⟩ := rel.ios (0, p) (List.mem_singleton.mpr rfl)
    unfold lastIo at e
    rw [e1] at e
    cases e
    obtain ⟨p', e3, w⟩ := rel.heldAt e1 rfl
    rw [e2] at e3
    cases e3
    exact w
  have fin2 : ∀ {ρ' : Env} {σ' : L2.St} {H' F' : Hp}, Rel K ({ l := [(0, p)] } : Io []) Rv ρ' F' σ' H' → ∃ z, lastIo ρ' = [z] := fun {ρ' σ' H' F'} rel => by
    obtain ⟨⟨d, e1⟩, e2⟩ := rel.ios (0, p) (List.mem_singleton.mpr rfl)
    exact ⟨d, by unfold lastIo; rw [e1]⟩
  have q : (match (match body (Cell.io d0 :: (ds.map Cell.fro ++ List.replicate (N.length - ps.length) Cell.no)) with
    | .ok (.rt d) ρ => FR.ok d (lastIo ρ)
    | .ok .nx ρ => .ok .non (lastIo ρ)
    | _ => .stuck) with
    | .ok d [z] => ∀ v H' F', FLe F0 F' → Apart F' Rv H' → OwnAt K F' Rv H' p z → Rp K F' v d → Q v H'
    | _ => False) := q
  cases e : body (Cell.io d0 :: (ds.map Cell.fro ++ List.replicate (N.length - ps.length) Cell.no)) with
  | stuck => rw [e] at q; exact q.elim
  | exc x ρ' => rw [e] at q; exact q.elim
  | ok fl ρ' =>
    rw [e] at q
    cases fl with
    | nx =>
      intro σ' H' F' le rel
      obtain ⟨z, hz⟩ := fin2 rel
      simp only [hz] at q
      exact q _ H' F' le ⟨rel.fH, rel.rH, rel.dj, rel.nt⟩ (fin rel hz) .non
    | bk => exact q.elim
    | ct => exact q.elim
    | rt d =>
      intro v σ' H' F' le rel rp
      obtain ⟨z, hz⟩ := fin2 rel
      simp only [hz] at q
      exact q v H' F' le ⟨rel.fH, rel.rH, rel.dj, rel.nt⟩ (fin rel hz) rp
theorem takes0N {X : Cx} : L2N.Takes X (fun _ _ _ _ => False) := fun _ _ x => by
  obtain ⟨_, _, _, _, _, _, _, _, _, _, _, _, _, _, _, _, z⟩ := x
  exact z.elim
theorem at_blk {X : Cx} {W : WX} (hu : At X W) {s : Shared} {H : Hp} {scope : Scope} {cenv : PySem.Env} {fp : List Addr} : At (X.blk s H scope cenv fp) W0 := ⟨hu.calm, hu.nd, hu.un, takes0N⟩
theorem cal_P {x : Str} {st : Stmt} {N ps : List Str} {k : Nat} {body : SS} (ea : String → Addr) (F : Fn K mg x st ps) (S : FnScope N ps (defScope st))
    (h : ∀ (f : Addr) (cdv : Value) (A : Around) (outer : List PySem.Env) (s : Shared) (H : Hp) (E : XK), Room k (A.deeper (envOfC x (defScope st) s.heap.objs.size f cdv)) →
      DSs ⟨K, ⟨ea, []⟩⟩ (cxOf (L2N.CX P w) P w K mg base N x (defScope st) f cdv A outer s H E) (wE E) (defBody st) body) : Cal P w K mg base x (k + 1) (spP ⟨K, ⟨ea, []⟩⟩ ps.length (runP N.length ps.length body)) := by
  obtain ⟨f, fd, F, hm, hb⟩ := F.there
  exact ⟨f, fd, ps, d_defP ea F S (h f), hm, F.kp, hb⟩
theorem cal_I {x : Str} {st : Stmt} {N ps : List Str} {k : Nat} {body : SS} (ea : String → Addr) (F : Fn K mg x st ps) (S : FnScope N ps (defScope st)) (h0 : 0 < ps.length)
    (h : ∀ (f : Addr) (cdv : Value) (A : Around) (outer : List PySem.Env) (s : Shared) (H : Hp) (E : XK), Room k (A.deeper (envOfC x (defScope st) s.heap.objs.size f cdv)) →
      DSs ⟨K, ⟨ea, []⟩⟩ (cxOf (L2N.CX P w) P w K mg base N x (defScope st) f cdv A outer s H E) (wE E) (defBody st) body) : Cal P w K mg base x (k + 1) (spI ⟨K, ⟨ea, []⟩⟩ ps.length (runI N.length ps.length body)) := by
  obtain ⟨f, fd, F, hm, hb⟩ := F.there
  exact ⟨f, fd, ps, d_defI ea F S h0 (h f), hm, F.kp, hb⟩
/-- no turn left -/
theorem cal_P0 {x : Str} {st : Stmt} {N ps : List Str} (k : Nat) (ea : String → Addr) (F : Fn K mg x st ps) (S : FnScope N ps (defScope st)) : Cal P w K mg base x (k + 1) (spP ⟨K, ⟨ea, []⟩⟩ ps.length fun _ => .stuck) := by
  obtain ⟨f, fd, F, hm, hb⟩ := F.there
  exact ⟨f, fd, ps, okN F S (fun vs H Q E ⟨_, _, _, hl, _⟩ => hl) fun _ _ _ _ _ _ _ _ _ ⟨_, _, _, _, _, _, q⟩ => q.elim, hm, F.kp, hb⟩
theorem cal_I0 {x : Str} {st : Stmt} {N ps : List Str} (k : Nat) (ea : String → Addr) (F : Fn K mg x st ps) (S : FnScope N ps (defScope st)) : Cal P w K mg base x (k + 1) (spI ⟨K, ⟨ea, []⟩⟩ ps.length fun _ => .stuck) := by
  obtain ⟨f, fd, F, hm, hb⟩ := F.there
  exact ⟨f, fd, ps, okN F S (fun vs H Q E ⟨_, _, _, _, _, _, _, hl, _⟩ => hl) fun _ _ _ _ _ _ _ _ _ ⟨_, _, _, _, _, _, _, _, _, _, _, q⟩ => q.elim, hm, F.kp, hb⟩
def mInsert (ds es : List D) : Option (D × List D) := match es with
  | [.int i, d] => if ds.length < sizeLine ∧ 0 ≤ i ∧ i < 2 ^ 63 then some (.non, ds.take i.toNat ++ [d] ++ ds.drop i.toNat) else none
  | _ => none
theorem lmut_insert {G : Gx} : LMut G (fun x vs H Q => ∃ (l : Addr) (xs : List V) (i : Int) (y : V), x = V.ref l ∧ vs = [V.int i, y] ∧ H l = some (.lst xs) ∧ xs.length < sizeLine ∧ 0 ≤ i ∧ i < 2 ^ 63 ∧ Q V.non (upd H l (.lst (xs.take i.toNat ++ [y] ++ xs.drop i.toNat)))) mInsert := fun F H p vs ds xs es z ds' Q fh hp r rx e q => by
  unfold mInsert at e
  split at e
  · split at e
    · rename_i hz
      cases e
      cases rx with
      | cons a b =>
        cases b with
        | cons b c => cases c; cases a; exact ⟨p, vs, _, _, rfl, rfl, hp, by rw [r.length]; exact hz.1, hz.2.1, hz.2.2, q _ _ .non (((r.take _).append (.cons b .nil)).append (r.drop _))⟩
    · cases e
  · cases e
end
/-- a module's constant that is no object -/
theorem d_glob {v : V} {d : D} (hg : Gl X x) (hm : ∃ u, X.mg x = some u ∧ RelV v u) (rp : ∀ F, Rp X.K F v d) (hd : (x == ("__debug__" : Str)) = false := by decide) : DE (GK X ex) X W (.Name x p) (sCst d) :=
  let ⟨_, h1, h2⟩ := hm
  d_cst (pe_glob hg h1 h2 hd) rp
/-- no test -/
def tT1 : ST := fun ρ => .ok true ρ
theorem pts_nilT : PTs X [] (tT (GK X ex) W tT1) := ⟨fun pins s σ H Q I ⟨ρ, F, Rv, io, rel, q⟩ => pts_nil.run pins s σ H Q I (q H F (FLe.refl F) rel)⟩
end
end Dt

set_option Elab.async false
set_option linter.all false
set_option maxRecDepth 100000
/-! Plain reckoning: what the combinators are, as rewriting rules; loops by their invariants; data of bounded size. -/
namespace Dt
open PySem

/-- the first part is reckoned, then the rest -/
@[simp ↓] theorem ev_bind {α β : Type} (r : R α) (f : α → Env → R β) : r.bind f = match r with | .ok a ρ => f a ρ | .exc x ρ => .exc x ρ | .stuck => .stuck := rfl
@[simp] theorem ev_loc (i : Nat) (ρ : Env) : sLoc i ρ = match ρ[i]? with | some .no => .stuck | none => .stuck | _ => .ok (.loc i) ρ := rfl
@[simp] theorem ev_var (i : Nat) (ρ : Env) : sVar i ρ = match ρ[i]? with | some (.fro d) => .ok d ρ | some (.own d) => .ok d (ρ.set i (.fro d)) | _ => .stuck := rfl
@[simp] theorem ev_gSet (i : Nat) (d : D) (ρ : Env) : gSet i d ρ = match ρ[i]? with | some (.io _) => .stuck | none => .stuck | _ => .ok () (ρ.set i (.fro d)) := rfl
@[simp] theorem ev_gOwn (i : Nat) (d : D) (ρ : Env) : gOwn i d ρ = match ρ[i]? with | some (.io _) => .stuck | none => .stuck | _ => .ok () (ρ.set i (.own d)) := rfl
@[simp] theorem ev_held (ρ : Env) (i : Nat) : held ρ i = (ρ[i]?).bind Cell.held := rfl
@[simp] theorem ev_put (ρ : Env) (i : Nat) (d : D) : put ρ i d = match ρ[i]? with | some c => ρ.set i (c.put d) | none => ρ := rfl
@[simp] theorem ev_heldL (ρ : Env) (i : Nat) : heldL ρ i = match held ρ i with | some (.lst ds) => some ds | _ => none := rfl
@[simp] theorem ev_gPut (i : Nat) (sk : SO) (z : D) (ρ : Env) : gPut i sk z ρ = match held ρ i with
  | none => .stuck
  | some _ => (sk ρ).bind fun o ρ' => match held ρ' i, o.get ρ' with
    | some d, some k => match putD d k z with
      | some d' => .ok () (put ρ' i d')
      | none => .stuck
    | _, _ => .stuck := rfl
@[simp] theorem ev_mut (i : Nat) (f : List D → List D → Option (D × List D)) (s : SA) (ρ : Env) : sMut i f s ρ = match heldL ρ i with
  | none => .stuck
  | some _ => (s ρ).bind fun es ρ' => match heldL ρ' i with
    | none => .stuck
    | some ds => match f ds es with
      | some r => .ok r.1 (put ρ' i (.lst r.2))
      | none => .stuck := rfl
@[simp] theorem ev_callI (i n : Nat) (g : List D → FR) (s : SA) (ρ : Env) : sCallI i n g s ρ = match held ρ i with
  | none => .stuck
  | some _ => (s ρ).bind fun ds ρ' => match held ρ' i with
    | none => .stuck
    | some d0 => if ds.length + 1 = n then endI i (g (d0 :: ds)) ρ' else .stuck := rfl
@[simp] theorem ev_cst (d : D) (ρ : Env) : sCst d ρ = .ok d ρ := rfl
@[simp] theorem ev_val (s : SE) (ρ : Env) : sVal s ρ = (s ρ).bind fun d ρ' => .ok (.val d) ρ' := rfl
@[simp] theorem ev_nil (ρ : Env) : sNil ρ = .ok [] ρ := rfl
@[simp] theorem ev_cons (s : SE) (t : SA) (ρ : Env) : sCons s t ρ = (s ρ).bind fun d ρ1 => (t ρ1).bind fun ds ρ2 => .ok (d :: ds) ρ2 := rfl
@[simp] theorem ev_bnil (ρ : Env) : bNil ρ = .ok [] ρ := rfl
@[simp] theorem ev_bcons (s : SO) (t : SB) (ρ : Env) : bCons s t ρ = (s ρ).bind fun d ρ1 => (t ρ1).bind fun ds ρ2 => .ok (d :: ds) ρ2 := rfl
@[simp] theorem ev_b1 (s : SO) (ρ : Env) : b1 s ρ = (s ρ).bind fun d ρ1 => .ok [d] ρ1 := rfl
@[simp] theorem ev_b2 (s t : SO) (ρ : Env) : b2 s t ρ = (s ρ).bind fun d ρ1 => (t ρ1).bind fun e ρ2 => .ok [d, e] ρ2 := by
  show (s ρ).bind _ = (s ρ).bind _
  congr 1
  funext d ρ1
  show (bCons t bNil ρ1).bind _ = _
  rw [ev_bcons]
  cases t ρ1 <;> rfl
@[simp] theorem ev_ops (g : List D → Option D) (s : SB) (ρ : Env) : sOps g s ρ = (s ρ).bind fun os ρ' => ofO ((getAll ρ' os).bind g) ρ' := rfl
@[simp] theorem ev_ofS {α : Type} (a : α) (ρ : Env) : ofO (some a) ρ = .ok a ρ := rfl
@[simp] theorem ev_ofN {α : Type} (ρ : Env) : ofO (none : Option α) ρ = .stuck := rfl
@[simp] theorem ev_getV (d : D) (ρ : Env) : (Opd.val d).get ρ = some d := rfl
@[simp] theorem ev_getL (i : Nat) (ρ : Env) : (Opd.loc i).get ρ = (ρ[i]?).bind Cell.data := rfl
@[simp] theorem ev_all0 (ρ : Env) : getAll ρ [] = some [] := rfl
@[simp] theorem ev_all1 (o : Opd) (os : List Opd) (ρ : Env) : getAll ρ (o :: os) = (o.get ρ).bind fun d => (getAll ρ os).map fun ds => d :: ds := rfl
@[simp] theorem cd_fro (d : D) : (Cell.fro d).data = some d := rfl
@[simp] theorem cd_own (d : D) : (Cell.own d).data = some d := rfl
@[simp] theorem cd_io (d : D) : (Cell.io d).data = some d := rfl
@[simp] theorem cd_no : Cell.no.data = none := rfl
@[simp] theorem ch_fro (d : D) : (Cell.fro d).held = none := rfl
@[simp] theorem ch_own (d : D) : (Cell.own d).held = some d := rfl
@[simp] theorem ch_io (d : D) : (Cell.io d).held = some d := rfl
@[simp] theorem ch_no : Cell.no.held = none := rfl
@[simp] theorem cp_own (d e : D) : (Cell.own d).put e = .own e := rfl
@[simp] theorem cp_io (d e : D) : (Cell.io d).put e = .io e := rfl
@[simp] theorem ev_tst (s : SE) (ρ : Env) : sTst s ρ = (s ρ).bind fun d ρ' => match d with | .bl k => .ok k ρ' | _ => .stuck := rfl
@[simp] theorem ev_chain (g g' : List D → Option D) (sa sb sc : SO) (ρ : Env) : sChain g g' sa sb sc ρ = (sa ρ).bind fun x ρ1 => (sb ρ1).bind fun y ρ2 => (ofO ((getAll ρ2 [x, y]).bind g) ρ2).bind fun z ρ2 => match z with
  | .bl true => (sc ρ2).bind fun w ρ3 => ofO ((getAll ρ3 [y, w]).bind g') ρ3
  | .bl false => .ok (.bl false) ρ2
  | _ => .stuck := rfl
@[simp] theorem ev_tru (s : SO) (ρ : Env) : sTru s ρ = (s ρ).bind fun o ρ' => ofO ((o.get ρ').bind D.truth) ρ' := rfl
@[simp] theorem ev_and (s t : ST) (ρ : Env) : tAndS s t ρ = (s ρ).bind fun k ρ' => match k with | true => t ρ' | false => .ok false ρ' := rfl
@[simp] theorem ev_or (s t : ST) (ρ : Env) : tOrS s t ρ = (s ρ).bind fun k ρ' => match k with | true => .ok true ρ' | false => t ρ' := rfl
@[simp] theorem ev_tnot (s : ST) (ρ : Env) : tNotS s ρ = (s ρ).bind fun k ρ' => .ok (!k) ρ' := rfl
@[simp] theorem ev_sand (s t : SE) (ρ : Env) : sAnd s t ρ = (s ρ).bind fun d ρ' => match d.truth with | some true => t ρ' | some false => .ok d ρ' | none => .stuck := rfl
@[simp] theorem ev_sor (s t : SE) (ρ : Env) : sOr s t ρ = (s ρ).bind fun d ρ' => match d.truth with | some true => .ok d ρ' | some false => t ρ' | none => .stuck := rfl
@[simp] theorem ev_not (s : SO) (ρ : Env) : sNot s ρ = (sTru s ρ).bind fun k ρ' => .ok (.bl (!k)) ρ' := rfl
@[simp] theorem ev_if (t : ST) (a b : SE) (ρ : Env) : sIf t a b ρ = (t ρ).bind fun k ρ' => match k with | true => a ρ' | false => b ρ' := rfl
@[simp] theorem tr_bl (b : Bool) : (D.bl b).truth = some b := rfl
@[simp] theorem tr_non : D.non.truth = some false := rfl
@[simp] theorem tr_int (i : Int) : (D.int i).truth = some (i != 0) := rfl
@[simp] theorem ev_pn (ρ : Env) : sPn ρ = .ok none ρ := rfl
@[simp] theorem ev_pe (s : SE) (ρ : Env) : sPe s ρ = (s ρ).bind fun d ρ' => match d with | .int i => .ok (some i) ρ' | _ => .stuck := rfl
@[simp] theorem ev_slice (s : SO) (lo hi : SP') (ρ : Env) : sSlice s lo hi ρ = (s ρ).bind fun o ρ1 => (lo ρ1).bind fun l ρ2 => (hi ρ2).bind fun h ρ3 => ofO ((o.get ρ3).bind fun d => sliceD d l h) ρ3 := rfl
@[simp] theorem ev_rev (s : SO) (ρ : Env) : sRev s ρ = (s ρ).bind fun o ρ' => match o.get ρ' with | some (.lst xs) => .ok (.lst xs.reverse) ρ' | _ => .stuck := rfl
@[simp] theorem ev_tup (s : SA) (ρ : Env) : sTup s ρ = (s ρ).bind fun ds ρ' => if ds.length ≤ sizeLine then .ok (.tup ds) ρ' else .stuck := rfl
@[simp] theorem ev_lst (s : SA) (ρ : Env) : sLst s ρ = (s ρ).bind fun ds ρ' => if ds.length ≤ sizeLine then .ok (.lst ds) ρ' else .stuck := rfl
@[simp] theorem ev_isi (ts : List String) (s : SO) (ρ : Env) : sIsi ts s ρ = (s ρ).bind fun o ρ' => ofO ((o.get ρ').bind (isTo ts)) ρ' := rfl
@[simp] theorem isTo_non {ts : List String} : isTo ts .non = some (.bl (ts.any (isT .non))) := rfl
@[simp] theorem isTo_bl {ts : List String} {b : Bool} : isTo ts (.bl b) = some (.bl (ts.any (isT (.bl b)))) := rfl
@[simp] theorem isTo_int {ts : List String} {b : Int} : isTo ts (.int b) = some (.bl (ts.any (isT (.int b)))) := rfl
@[simp] theorem isTo_str {ts : List String} {b : Str} : isTo ts (.str b) = some (.bl (ts.any (isT (.str b)))) := rfl
@[simp] theorem isTo_tup {ts : List String} {b : List D} : isTo ts (.tup b) = some (.bl (ts.any (isT (.tup b)))) := rfl
@[simp] theorem isTo_lst {ts : List String} {b : List D} : isTo ts (.lst b) = some (.bl (ts.any (isT (.lst b)))) := rfl
@[simp] theorem isTo_scr {ts : List String} {b : List Int} : isTo ts (.scr b) = some (.bl (ts.any (isT (.scr b)))) := rfl
@[simp] theorem isTo_arg {ts : List String} {b : List D} : isTo ts (.arg b) = some (.bl (ts.any (isT (.arg b)))) := rfl
@[simp] theorem isTo_dct {ts : List String} {ks : List L2.Key} {ds : List D} : isTo ts (.dct ks ds) = some (.bl (ts.any (isT (.dct ks ds)))) := rfl
@[simp] theorem ev_iAny (s : SE) (ρ : Env) : iAny s ρ = (s ρ).bind fun d ρ' => ofO (itemsD d) ρ' := rfl
@[simp] theorem ev_iRng1 (s : SA) (ρ : Env) : iRng1' s ρ = (s ρ).bind fun ds ρ' => ofO (rng1D ds) ρ' := rfl
@[simp] theorem ev_iRng2 (s : SA) (ρ : Env) : iRng2' s ρ = (s ρ).bind fun ds ρ' => ofO (rng2D ds) ρ' := rfl
@[simp] theorem ev_asg (g : SG) (s : SE) (ρ : Env) : sAsg g s ρ = (s ρ).bind fun d ρ' => (g d ρ').bind fun _ ρ'' => .ok .nx ρ'' := rfl
@[simp] theorem ev_expr (s : SE) (ρ : Env) : sExpr s ρ = (s ρ).bind fun _ ρ' => .ok .nx ρ' := rfl
@[simp] theorem ev_ret (s : SE) (ρ : Env) : sRet s ρ = (s ρ).bind fun d ρ' => .ok (.rt d) ρ' := rfl
@[simp] theorem ev_nx (ρ : Env) : sNx ρ = .ok .nx ρ := rfl
@[simp] theorem ev_seq (a b : SS) (ρ : Env) : sSeq a b ρ = (a ρ).bind fun f ρ' => match f with | .nx => b ρ' | f => .ok f ρ' := rfl
@[simp] theorem ev_ifS (t : ST) (a b : SS) (ρ : Env) : sIfS t a b ρ = (t ρ).bind fun k ρ' => match k with | true => a ρ' | false => b ρ' := rfl
@[simp] theorem ev_tT1 (ρ : Env) : tT1 ρ = .ok true ρ := rfl
@[simp] theorem ev_gTup (n : Nat) (gs : SGs) (d : D) (ρ : Env) : gTup' n gs d ρ = match d with | .tup ds => if ds.length = n then gs ds ρ else .stuck | .lst ds => if ds.length = n then gs ds ρ else .stuck | .arg ds => if ds.length = n then gs ds ρ else .stuck | _ => .stuck := rfl
@[simp] theorem ev_gN0 (ρ : Env) : gN [] ρ = .ok () ρ := rfl
@[simp] theorem ev_gC (g : SG) (gs : SGs) (d : D) (ds : List D) (ρ : Env) : gC g gs (d :: ds) ρ = (g d ρ).bind fun _ ρ' => gs ds ρ' := rfl
@[simp] theorem ev_callP (n : Nat) (g : List D → FR) (s : SA) (ρ : Env) : sCallP n g s ρ = (s ρ).bind fun ds ρ' => if ds.length = n then endP (g ds) ρ' else .stuck := rfl
@[simp] theorem ev_endP (d : D) (o : List D) (ρ : Env) : endP (.ok d o) ρ = .ok d ρ := rfl
@[simp] theorem ev_endPx (x : Exn) (ρ : Env) : endP (.exc x) ρ = .exc x ρ := rfl
@[simp] theorem ev_endI (i : Nat) (d z : D) (ρ : Env) : endI i (.ok d [z]) ρ = .ok d (put ρ i z) := rfl
@[simp] theorem noX_ok {α : Type} (a : α) (ρ : Env) : noX (.ok a ρ) = .ok a ρ := rfl
@[simp] theorem blsOf_nil : blsOf [] = some [] := rfl
@[simp] theorem blsOf_cons (b : Bool) (ds : List D) : blsOf (.bl b :: ds) = (blsOf ds).map fun r => b :: r := rfl
theorem line_pos {n : Nat} (h : n ≤ 16777216) : n ≤ sizeLine := by
  rw [show sizeLine = 16777216 from by decide]
  exact h

/-! ### loops by their invariants -/
theorem for_inv {I : Env → Prop} {g : SG} {s : SS} : ∀ {ds : List D} {ρ : Env}, (∀ d ∈ ds, ∀ ρ, I ρ → ∃ ρ1 ρ2 f, g d ρ = .ok () ρ1 ∧ s ρ1 = .ok f ρ2 ∧ (f = .nx ∨ f = .ct) ∧ I ρ2) → I ρ → ∃ ρ', forGo g s ds ρ = .ok .nx ρ' ∧ I ρ'
  | [], ρ, _, hi => ⟨ρ, rfl, hi⟩
  | d :: ds, ρ, h, hi => by
    obtain ⟨ρ1, ρ2, f, e1, e2, hf, i2⟩ := h d (List.mem_cons_self) ρ hi
    obtain ⟨ρ', e3, i3⟩ := for_inv (fun d hd => h d (List.mem_cons_of_mem _ hd)) i2
    refine ⟨ρ', ?_, i3⟩
    unfold forGo
    rw [e1, R.bind_ok, e2, R.bind_ok]
    rcases hf with rfl | rfl <;> exact e3
/-- every item kept: what is made of each -/
theorem comp_inv {I : Env → Prop} {P : D → Prop} {vs : List Nat} {g : SG} {t : ST} {s : SE} : ∀ {ds : List D} {ρ : Env}, (∀ d ∈ ds, ∀ ρ, I ρ → ∃ ρ1 ρ2 ρ3 z, g d ρ = .ok () ρ1 ∧ t ρ1 = .ok true ρ2 ∧ s ρ2 = .ok z ρ3 ∧ plainAt ρ3 vs = true ∧ I (wipeE ρ3 vs) ∧ P z) → I ρ →
    ∃ zs ρ', compGo vs g t s ds ρ = .ok zs ρ' ∧ I ρ' ∧ zs.length = ds.length ∧ ∀ z ∈ zs, P z
  | [], ρ, _, hi => ⟨[], ρ, rfl, hi, rfl, fun _ h => nomatch h⟩
  | d :: ds, ρ, h, hi => by
    obtain ⟨ρ1, ρ2, ρ3, z, e1, e2, e3, hp, i3, pz⟩ := h d (List.mem_cons_self) ρ hi
    obtain ⟨zs, ρ', e4, i4, hl, pzs⟩ := comp_inv (fun d hd => h d (List.mem_cons_of_mem _ hd)) i3
    refine ⟨z :: zs, ρ', ?_, i4, by simp [hl], fun y hy => ?_⟩
    · unfold compGo
      rw [e1, R.bind_ok, e2, R.bind_ok]
      show (s ρ2).bind _ = _
      rw [e3, R.bind_ok, if_pos hp, e4, R.bind_ok]
    · rcases List.mem_cons.mp hy with rfl | hy
      · exact pz
      · exact pzs y hy
/-- a comprehension that computes f of each item that p keeps, in an environment that stays -/
theorem comp_map {vs : List Nat} {g : SG} {t : ST} {s : SE} {f : D → D} {p : D → Bool} {ρ : Env} : ∀ {ds : List D}, (∀ d ∈ ds, ∃ ρ1 ρ2, g d ρ = .ok () ρ1 ∧ t ρ1 = .ok (p d) ρ2 ∧ plainAt ρ2 vs = true ∧ wipeE ρ2 vs = ρ ∧ (p d = true → ∃ ρ3, s ρ2 = .ok (f d) ρ3 ∧ plainAt ρ3 vs = true ∧ wipeE ρ3 vs = ρ)) →
    compGo vs g t s ds ρ = .ok ((ds.filter p).map f) ρ
  | [], _ => rfl
  | d :: ds, h => by
    obtain ⟨ρ1, ρ2, e1, e2, h1, h2, h3⟩ := h d (List.mem_cons_self)
    have ih := comp_map (fun d hd => h d (List.mem_cons_of_mem _ hd))
    unfold compGo
    rw [e1, R.bind_ok, e2, R.bind_ok]
    cases hp : p d with
    | false =>
      show (if plainAt ρ2 vs = true then _ else _) = _
      rw [if_pos h1, h2, ih, List.filter_cons_of_neg (by simp [hp])]
    | true =>
      obtain ⟨ρ3, e3, h4, h5⟩ := h3 hp
      show (s ρ2).bind _ = _
      rw [e3, R.bind_ok, if_pos h4, h5, ih, R.bind_ok, List.filter_cons_of_pos (by simp [hp]), List.map_cons]
end Dt

set_option Elab.async false
set_option linter.all false
set_option maxRecDepth 100000
set_option maxHeartbeats 4000000
/-! The set of a list of texts, however many: its length. -/
namespace Dt
open PySem PySem.Spec PyProof.Rows
/-- one more text -/
def kindS (σ : List Str) (x : Str) : List Str := if x ∈ σ then σ else σ ++ [x]
/-- the unlike texts, in the order of their first places -/
def kinds (xs : List Str) : List Str := xs.foldl kindS []
theorem kinds_snoc (xs : List Str) (x : Str) : kinds (xs ++ [x]) = kindS (kinds xs) x := by
  unfold kinds
  rw [List.foldl_append]
  rfl
theorem mem_kindS {σ : List Str} {x y : Str} : y ∈ kindS σ x ↔ y ∈ σ ∨ y = x := by
  unfold kindS
  split
  · rename_i h
    exact ⟨.inl, fun q => q.elim id fun e => by rw [e]; exact h⟩
  · rw [List.mem_append, List.mem_singleton]
theorem len_kindS (σ : List Str) (x : Str) : (kindS σ x).length = if x ∈ σ then σ.length else σ.length + 1 := by
  unfold kindS
  split <;> simp
theorem kinds_len_go : ∀ (xs σ : List Str), (xs.foldl kindS σ).length ≤ σ.length + xs.length
  | [], σ => Nat.le_refl _
  | x :: xs, σ => by
    have h := kinds_len_go xs (kindS σ x)
    rw [len_kindS] at h
    rw [List.foldl_cons, List.length_cons]
    split at h <;> omega
theorem kinds_len (xs : List Str) : (kinds xs).length ≤ xs.length := by
  have := kinds_len_go xs []
  simpa [kinds] using this
theorem take_snoc {xs : List Str} {i : Nat} (h : i < xs.length) : xs.take (i + 1) = xs.take i ++ [xs.getD i Str.empty] := by
  rw [List.take_succ, List.getD_eq_getElem?_getD, List.getElem?_eq_getElem h]
  rfl
def seen (xs : List Str) (i : Nat) : Str → Bool := fun k => decide (k ∈ kinds (xs.take i))
abbrev SeenAt (prog : Program) (w : World) (S : Addr) (xs : List Str) (i : Nat) (h : Heap) : Prop := h.SetOf (PySem.strKind prog w) S (seen xs i) (kinds (xs.take i)).length
section
variable {prog : Program} {w : World} {A : Around} {R : Result → Shared → Prop} {I : Addr} {fp wr : List Addr} {G : Array GenState → Array GenState → Prop} {n : Nat} {P : Nat → Value → Prop} {St : Nat → Shared → Prop}
theorem loop_texts (W : WalksS prog w A.in1 I fp wr G n P St) (S : Addr) (away : S ∉ fp) (xs : List Str) (len : xs.length = n) (room : n + 1 < scanBound) (val : ∀ i v, P i v → ∃ t, v = .str (xs.getD i Str.empty) t)
    : ∀ (k i : Nat) (s : Shared), n - i = k → i ≤ n → St i s → SeenAt prog w S xs i s.heap →
      (∀ t, Moved (S :: wr) G s t → SeenAt prog w S xs n t.heap → R (.ok (.ret .none)) t) → codeAny (model prog w) A (.builtin "set.update.loop" ⟨[.ref S, .ref I], []⟩) R s := by
  have notW : S ∉ wr := fun q => away (W.sub _ q)
  have wide : ∀ b ∈ wr, b ∈ S :: wr := fun b q => .tail _ q
  have keep : ∀ {i : Nat} {s t : Shared}, Moved wr G s t → SeenAt prog w S xs i s.heap → SeenAt prog w S xs i t.heap := fun m ⟨o, es, ep, tb, ho, more⟩ => ⟨o, es, ep, tb, m.heap S _ notW ho, more⟩
  intro k
  induction k with
  | zero =>
    intro i s hk le st hS fin
    obtain rfl : i = n := by omega
    refine codeAny_builtin F.entry_set_update_loop (by rw [Around.under_plainId F.plain_set_update_loop _]; exact (show wpAny _ A.in1 (pyNext (.ref I) >>= _) _ _ s from wpAny_bind (W.done s _ _ st fun t m => (show wpAny _ A.in1 (ret Value.none) _ _ t from wpAny_pure (fin t (m.mono wide) (keep m hS)))))) 
  | succ k ih =>
    intro i s hk le st hS fin
    have lt : i < n := by omega
    refine codeAny_builtin F.entry_set_update_loop ?_; rw [Around.under_plainId F.plain_set_update_loop _]
    refine (show wpAny _ A.in1 (pyNext (.ref I) >>= _) _ _ s from wpAny_bind (W.item i s _ _ lt st fun v t hv st' m => ?_))
    obtain ⟨tk, rfl⟩ := val i v hv
    have hS' := keep m hS
    refine (show wpAny _ A.in1 (holding [Value.str (xs.getD i Str.empty) tk] (setAdd S (.str (xs.getD i Str.empty) tk)) >>= _) _ _ t from wpAny_bind (wpAny_holding ?_))
    unfold setAdd
    have space : (kinds (xs.take i)).length + 1 < scanBound := by have := kinds_len (xs.take i); rw [List.length_take] at this; omega
    refine wpAny_holding (wpAny_bind ((PySem.strKind prog w).pyHash (k := xs.getD i Str.empty) (strKind_is _ _ _ _) ?_))
    refine wpAny_setAddHashed_of (knd := PySem.strKind prog w) (s := { t with toks := t.toks + 1 }) (strKind_is _ _ _ _) rfl hS' space fun h1 only hS2 => ?_
    have hS3 : SeenAt prog w S xs (i + 1) h1 := SetOf_congr hS2 (fun y => by
      unfold seen
      rw [take_snoc (by omega), kinds_snoc, Bool.eq_iff_iff, Bool.or_eq_true, decide_eq_true_iff, decide_eq_true_iff, decide_eq_true_iff, mem_kindS]) (by
      rw [take_snoc (by omega), kinds_snoc, len_kindS]
      simp [seen])
    have rest : ∀ b, b ≠ S → ∀ o, t.heap.get? b = some o → h1.get? b = some o := fun b q o e => by rw [only.2 b q]; exact e
    exact wpAny_pure ⟨plainId_quiet F.plain_set_update_loop _, ih (i + 1) _ (by omega) lt (W.frame _ t _ _ st' (Nat.le_succ _) fun b q o e => rest b (fun x => away (x ▸ q)) o e) hS3 fun u m2 hS4 =>
      fin u (Moved.trans W.gtrans ((m.mono wide).then_heap (Nat.le_succ _) fun b o q e => rest b (fun x => q (x ▸ .head _)) o e) m2) hS4⟩
end
section
variable {prog : Program} {w : World} {A : Around} {E : Value → Shared → Prop} {s : Shared}
abbrev bare (led : Bool) : Obj := { cls := .type "set", dict := none, data := .set #[] 0 (.fresh 0 0 led) }
abbrev walker (l : Addr) : Obj := { cls := .type "list_iterator", data := .fields #[.ref l, .int 0 0] }
theorem call_set_texts {l : Addr} {items : Array Value} {xs : List Str} {Q : Value → Shared → Prop} (hh : A.handled = none) (hl : s.heap.IsList l items) (txt : StrsAre items.toList xs) (len : xs.length = items.size) (room : items.size + 1 < scanBound)
    (fin : ∀ (h1 : Heap) (tk : Nat), SeenAt prog w s.heap.objs.size xs items.size h1 → (∀ b o, b < s.heap.objs.size → s.heap.get? b = some o → h1.get? b = some o) → Q (.ref s.heap.objs.size) { s with heap := h1, toks := tk }) :
    wpAny (model prog w) A (call (.type "set") [.ref l]) Q E s := by
  obtain ⟨c, tl, mro⟩ := F.called_set.mro
  have k1 := F.called_set.made; have k2 := F.called_set.sub
  refine wpAny_call (codeAny_of_tree (show wpAny _ _ (callAny (.type "set") _) _ _ _ from wpAny_pure ⟨Code.quiet_builtin _ (by decide +kernel), codeAny_builtin F.entry_type_call ?_⟩))
  have k0 := Around.under_plain (A := A) (weight_type_call_type "set" [.ref l] []) rfl; rw [k0]
  have k3 := F.called_set.notType; have k4 := F.called_set.canCreate; have k5 := F.typeCall_set_1 (.ref l)
  repeat any_goals first | assumption | wp_step
  refine codeAny_mono (code_set_new_1 (.ref l) (E := E) (Q₁ := fun v t => ∃ led : Bool, v = .ref s.heap.objs.size ∧ t = { s with heap := s.heap.push (bare led) }) fun led => ⟨led, rfl, rfl⟩) fun r t hr => ?_
  match r, hr with
  | .error e, hr => exact hr
  | .ok (.ret v), hr =>
    obtain ⟨led, rfl, rfl⟩ := hr
    have at1 : (s.heap.push (bare led)).get? s.heap.objs.size = some (bare led) := Heap.get?_push_size _ rfl
    have ty : Shared.TypeIs { s with heap := s.heap.push (bare led) } (.ref s.heap.objs.size) "set" := ⟨_, at1, rfl⟩
    have k6 := F.called_set.init.lookup; have k7 := F.called_set.init.bind (.ref s.heap.objs.size)
    repeat any_goals first | assumption | wp_step
    refine codeAny_mono (codeAny_call_builtin (R := wants (fun r t => r = .none ∧ ∃ h1 tk, t = { s with heap := h1, toks := tk } ∧ SeenAt prog w s.heap.objs.size xs items.size h1 ∧ (∀ b o, b < s.heap.objs.size → s.heap.get? b = some o → h1.get? b = some o)) E) F.called_set.init.plain F.entry_set_init (check_set_init_1 ty ?_)) fun r t hr => ?_
    · obtain ⟨⟨ocls, odict, odata, oslots⟩, at2, c2, nl, d2⟩ := hl
      obtain rfl : ocls = _ := c2
      obtain rfl : odata = _ := d2
      have is1 : s.heap.IsList l items := ⟨_, at2, rfl, nl, rfl⟩
      have at3 := Heap.get?_push_of_some (bare led) at2
      have is2 : (s.heap.push (bare led)).IsList l items := ⟨_, at3, rfl, nl, rfl⟩
      have k8 := F.sub_list_set; have k9 := F.sub_list_frozenset
      have kA : (Value.type "list" == Value.type "dict") = false := by decide
      unfold Builtin.«set.__init__» noKeywords Builtin.Frozenset.updateFrom
      generalize hPI : pyIter = PI
      wp_walk
      subst hPI
      refine wpAny_pyIter_list is2 (wpAny_bind (wpAny_runValue ?_))
      have lt : l < s.heap.objs.size := Heap.lt_size at2
      have sz : (s.heap.push (bare led)).objs.size = s.heap.objs.size + 1 := Heap.size_push _ _
      have q1 : A.in1.in1.in1.handled = none := by simp [hh]
      have q2 : l ≠ (s.heap.push (bare led)).objs.size := by rw [sz]; exact Nat.ne_of_lt (Nat.lt_succ_of_lt lt)
      have q3 : s.heap.objs.size ∉ [(s.heap.push (bare led)).objs.size, l] := fun h => by
        rcases List.mem_cons.mp h with e | h
        · rw [sz] at e; exact Nat.ne_of_lt (Nat.lt_succ_self _) e
        · rw [← List.mem_singleton.mp h] at lt; exact Nat.lt_irrefl _ lt
      have at4 : ((s.heap.push (bare led)).push (walker l)).get? s.heap.objs.size = some (bare led) := Heap.get?_push_of_some _ at1
      refine loop_texts ((Walks.list q1 _ l q2 items).toS) s.heap.objs.size q3 xs len room (fun i v hv => SS.strs_at txt i v (by rw [Array.getElem?_toList]; exact hv)) (items.size - 0) 0 _ (by omega) (Nat.zero_le _) ⟨⟨_, Heap.get?_push_size _ rfl, rfl, rfl⟩, is2.push _⟩ ?_ ?_
      · exact SetOf_congr ((setObjOf_fresh (knd := PySem.strKind prog w) led).setOf at4 (by unfold scanBound; omega)) (fun _ => rfl) rfl
      · intro ⟨h1, g1, d1, t1, o1⟩ m hS
        obtain rfl : g1 = s.gens := m.gens
        obtain rfl : d1 = s.drawn := m.drawn
        obtain rfl : o1 = s.os := m.os
        refine (show wpAny _ _ _ _ _ _ from wpAny_pure (show wpAny _ _ (ret Value.none) _ _ _ from wpAny_pure ⟨rfl, h1, t1, rfl, hS, fun b o hb e => ?_⟩))
        refine m.heap b o (fun h => ?_) (Heap.get?_push_of_some _ (Heap.get?_push_of_some _ e))
        rcases List.mem_cons.mp h with q | q
        · exact Nat.ne_of_lt hb q
        · rw [List.mem_singleton.mp q, sz] at hb; exact Nat.lt_irrefl _ (Nat.lt_of_succ_lt hb)
    · match r, hr with
      | .error e, hr => exact hr
      | .ok (.ret v), hr =>
        obtain ⟨rfl, h1, tk, rfl, hS, old⟩ := hr
        repeat any_goals first | assumption | wp_step
        exact fin _ _ hS old
end
end Dt

set_option Elab.async false
set_option linter.all false
set_option maxRecDepth 100000
set_option maxHeartbeats 4000000
/-! len(set(a)), a a list of texts. -/
namespace Dt
open PySem PySem.Spec PyProof.Rows L2
section
variable {X : Cx} {W : WX} {ex : Exx} {p p2 q pos : Pos}
def tLenTx (K : PySem.W.Frag) (ta : TE) : TE := fun σ H Q => ta σ H fun x H1 => ∃ (l : Addr) (xs : List Str), x = V.ref l ∧ SqL K H1 l (xs.map V.str) ∧ xs.length + 1 < scanBound ∧ Q (V.int ((kinds xs).length : Nat)) H1
theorem pe_lenTx {a : Expr} {ta : TE} (calm : X.calm = true) (g1 : Gl X "len") (m1 : X.mg "len" = none) (g2 : Gl X "set") (m2 : X.mg "set" = none) (ha : PE X a ta) (ns : starEach [a] X.env = (false, eval a X.env) :: starEach [] X.env := by rfl) :
    PE X (.Call (.Name "len" p) [.Call (.Name "set" p2) [a] [] q] [] pos) (tLenTx X.K ta) := by
  constructor; intro pins s σ H Q I h
  refine Call_ (ld_blt I g1 m1 boot_len (callWith_builtin1 (args_cons (Call_ (ld_blt I g2 m2 boot_set (callWith_type1 (args_cons (thn (ha.run pins s σ H _ I h) fun v t ⟨x, H1, I1, r1, l, xs, e1, hq, room, q1⟩ => args_nil ?_) ns) ns rfl))) rfl) rfl rfl))
  subst e1; cases r1
  obtain ⟨its, r, pl, hz⟩ := I1.list hq
  have sz : xs.length = its.toArray.size := by rw [List.size_toArray, ← r.length, List.length_map]
  refine call_set_texts (I1.ok.hd calm) pl.isList (by simpa using strsAre_of r) sz (by omega) fun h1 tk hS old => args_nil ?_
  have small := kinds_len (xs.take its.toArray.size)
  obtain ⟨o, es, ep, tb, at1, c1, d1, _, _, _, ft, cnt⟩ := hS
  rw [← sz, List.take_length] at cnt small
  have I2 : Inv X pins σ H1 { t with heap := h1, toks := tk } := I1.kept fun b o e => old b o (Heap.lt_size e) e
  exact call_len_set at1 c1 d1 ft (by rw [cnt]; unfold scanBound at room; omega) ⟨.int (kinds xs).length, H1, I2.tok _, ⟨_, by rw [cnt]⟩, q1⟩
/-- the texts of a list of texts -/
def textsD : List D → Option (List Str)
  | [] => some []
  | .str s :: ds => (textsD ds).map fun r => s :: r
  | _ :: _ => none
theorem textsD_rps {K : PySem.W.Frag} {F : Hp} : ∀ {vs : List V} {ds : List D} {xs : List Str}, Rps K F vs ds → textsD ds = some xs → vs = xs.map V.str
  | _, _, _, .nil, h => by cases h; rfl
  | _, .str s :: ds, xs, .cons a r, h => by
    unfold textsD at h
    cases e : textsD ds with
    | none => rw [e] at h; cases h
    | some ys =>
      rw [e] at h
      cases h
      cases a
      rw [textsD_rps r e]
      rfl
def lenSetD : D → Option D
  | .lst ds => (textsD ds).bind fun xs => if xs.length + 1 < scanBound then some (.int (kinds xs).length) else none
  | _ => none
def sLenSet (s : SE) : SE := fun ρ => (s ρ).bind fun d ρ' => ofO (lenSetD d) ρ'
theorem d_lenSet {a : Expr} {sa : SE} (calm : X.calm = true) (g1 : Gl X "len") (m1 : X.mg "len" = none) (g2 : Gl X "set") (m2 : X.mg "set" = none) (ha : DE (GK X ex) X W a sa) (ns : starEach [a] X.env = (false, eval a X.env) :: starEach [] X.env := by rfl) :
    DE (GK X ex) X W (.Call (.Name "len" p) [.Call (.Name "set" p2) [a] [] q] [] pos) (sLenSet sa) := wkE (pe_lenTx calm g1 m1 g2 m2 ha ns) fun σ H Q ⟨ρ, F, Rv, io, rel, k⟩ => by
  refine ⟨ρ, F, Rv, io, rel, ?_⟩
  unfold sLenSet at k
  cases e : sa ρ with
  | stuck => rw [e] at k; exact k.elim
  | exc x ρ' => rw [e] at k; exact k
  | ok d ρ' =>
    rw [e, R.bind_ok] at k
    intro v H' F' le rel' rp
    cases rp with
    | lst t r =>
      cases e2 : textsD _ with
      | none => rw [lenSetD, e2] at k; exact k.elim
      | some xs =>
        rw [lenSetD, e2, Option.bind_some] at k
        by_cases room : xs.length + 1 < scanBound
        · rw [if_pos room] at k
          have hv := textsD_rps r e2
          subst hv
          exact ⟨_, xs, rfl, SqL.of (rel'.fH _ _ t), room, k _ H' F' le rel' (.int _)⟩
        · rw [if_neg room] at k
          exact k.elim
    | _ => exact k.elim
end
end Dt

set_option Elab.async false
set_option linter.all false
set_option maxRecDepth 100000
set_option maxHeartbeats 4000000
/-! Dict comprehensions. -/
namespace Dt
open PySem PySem.Spec PyProof.Rows L2
def dcompGo (vs : List Nat) (g : SG) (t : ST) (sk s : SE) : List D → List Key × List D → Env → R (List Key × List D)
  | [], acc, ρ => .ok acc ρ
  | d :: ds, acc, ρ => (g d ρ).bind fun _ ρ1 => (t ρ1).bind fun k ρ2 => match k with
    | true => (sk ρ2).bind fun kd ρk => (s ρk).bind fun z ρ3 => match keyOf kd with
      | none => .stuck
      | some k => if plainAt ρ3 vs = true then dcompGo vs g t sk s ds (dPut acc.1 acc.2 k z) (wipeE ρ3 vs) else .stuck
    | false => if plainAt ρ2 vs = true then dcompGo vs g t sk s ds acc (wipeE ρ2 vs) else .stuck
def sDComp (vs : List Nat) (it : SA) (g : SG) (t : ST) (sk s : SE) : SE := fun ρ => (it ρ).bind fun ds ρ1 =>
  if plainAt ρ1 vs = true ∧ ds.length ≤ sizeLine then (noX (dcompGo vs g t sk s ds ([], []) (wipeE ρ1 vs))).bind fun zs ρ2 => .ok (.dct zs.1 zs.2) (backE ρ1 ρ2 vs) else .stuck
section
variable {ex : Exx} {X : Cx} {W : WX} {tg : Expr} {pos : Pos}
theorem dcomp_core {G : Gx} {σ : L2.St} {H : Hp} {Q : VK} {it : SA} {g : SG} {t : ST} {sk s : SE} {js vs : List Nat} (hjs : js.all (fun j => vs.contains j) = true) (h : tF G W (sDComp vs it g t sk s) σ H Q) :
    tDc (tI G W it) (tG G W0 js g) (tT G W0 t) (tE G W0 sk) (tE G W0 s) vs σ H Q := by
    obtain ⟨ρ, F, Rv, io, rel, q⟩ := h
    refine ⟨ρ, F, Rv, io, rel, ?_⟩
    unfold sDComp at q
    cases e : it ρ with
    | stuck => rw [e] at q; exact q.elim
    | exc x ρ' => rw [e] at q; exact q
    | ok ds ρ1 =>
      rw [e, R.bind_ok] at q
      intro J H1 F1 le1 rel1 J1 Dl hD
      by_cases hp : plainAt ρ1 vs = true ∧ ds.length ≤ sizeLine
      case neg => rw [if_neg hp] at q; exact q.elim
      rw [if_pos hp] at q
      obtain ⟨hpl, hz⟩ := hp
      cases e2 : dcompGo vs g t sk s ds ([], []) (wipeE ρ1 vs) with
      | stuck => rw [e2] at q; exact q.elim
      | exc x ρ' => rw [e2] at q; exact q.elim
      | ok zs ρe =>
        rw [e2] at q
        have nR : Rv Dl = none := rel1.rH.noneOf hD
        refine ⟨fun i m H => m = ds.length - i ∧ i ≤ ds.length ∧ ∃ (ρi : Env) (Fi : Hp) (acc : List (Key × V)) (dn : List D), FLe F1 Fi ∧ Rel G.K io (upd Rv Dl (.dK acc)) ρi Fi (wipe σ vs) H ∧ acc.length ≤ i ∧ Rps G.K Fi (acc.map (·.2)) dn ∧
          dcompGo vs g t sk s (ds.drop i) (acc.map (·.1), dn) ρi = .ok zs ρe, ⟨ds.length, rfl.trans (Nat.sub_zero _).symm, Nat.zero_le _, wipeE ρ1 vs, F1, [], [], FLe.refl _, (rel1.wiped hpl).resAdd hD _, Nat.le_refl _, .nil, e2⟩, ?_⟩
        rintro i m H ⟨rfl, hi, ρi, Fi, acc, dn, lei, reli, hacc, racc, hgo⟩
        by_cases hlt : i < ds.length
        · obtain ⟨d, hd, hdr⟩ := drop_at hlt
          rw [hdr] at hgo
          unfold dcompGo at hgo
          refine .inr ⟨J1.go i Fi H lei reli.fH hlt, fun H' => ∃ (ρ2 : Env) (F2 : Hp) (acc2 : List (Key × V)) (dn2 : List D), FLe F1 F2 ∧ Rel G.K io (upd Rv Dl (.dK acc2)) ρ2 F2 (wipe σ vs) H' ∧ acc2.length ≤ i + 1 ∧ Rps G.K F2 (acc2.map (·.2)) dn2 ∧
              dcompGo vs g t sk s (ds.drop (i + 1)) (acc2.map (·.1), dn2) ρ2 = .ok zs ρe, fun H' z => ⟨ds.length - (i + 1), by omega, rfl, hlt, z⟩, fun xv H' y => ?_⟩
          obtain ⟨F2, nw, rp⟩ := J1.yld i Fi H H' xv d lei reli.fH hd y
          have rel2 := reli.after nw
          refine ⟨d, ρi, F2, _, io, rel2, rp, ?_⟩
          cases e3 : g d ρi with
          | stuck => rw [e3] at hgo; cases hgo
          | exc x ρ' => rw [e3] at hgo; cases hgo
          | ok u ρ3 =>
            rw [e3, R.bind_ok] at hgo
            intro σ3 H3 F3 le3 rel3 hj3
            have hjs' : ∀ j, j ∉ vs → σ3[j]? = (wipe σ vs)[j]? := fun j hj => hj3.2 j fun z => hj (by
              have w := List.all_eq_true.mp hjs j z
              simpa using w)
            have hl3 : σ3.length = σ.length := hj3.1.trans (wipe_length σ vs)
            have hw := wipe_same hl3 hjs'
            refine ⟨hw, ρ3, F3, _, io, rel3, ?_⟩
            cases e4 : t ρ3 with
            | stuck => rw [e4] at hgo; cases hgo
            | exc x ρ' => rw [e4] at hgo; cases hgo
            | ok k ρ4 =>
              rw [e4, R.bind_ok] at hgo
              intro H4 F4 le4 rel4
              cases k with
              | false =>
                refine iteF ?_
                have hgo : (if plainAt ρ4 vs = true then dcompGo vs g t sk s (ds.drop (i + 1)) (acc.map (·.1), dn) (wipeE ρ4 vs) else .stuck) = R.ok zs ρe := hgo
                by_cases hp4 : plainAt ρ4 vs = true
                · rw [if_pos hp4] at hgo
                  have le := (nw.f.trans le3).trans le4
                  refine ⟨wipeE ρ4 vs, F4, acc, dn, lei.trans le, ?_, Nat.le_succ_of_le hacc, racc.mono le, hgo⟩
                  have r := rel4.wiped hp4
                  rw [hw] at r
                  exact r
                · rw [if_neg hp4] at hgo; cases hgo
              | true =>
                refine iteT ⟨ρ4, F4, _, io, rel4, ?_⟩
                have hgo : ((sk ρ4).bind fun kd ρk => (s ρk).bind fun z ρ3 => match keyOf kd with | none => .stuck | some k => if plainAt ρ3 vs = true then dcompGo vs g t sk s (ds.drop (i + 1)) (dPut (acc.map (·.1)) dn k z) (wipeE ρ3 vs) else .stuck) = R.ok zs ρe := hgo
                cases ek : sk ρ4 with
                | stuck => rw [ek] at hgo; cases hgo
                | exc x ρ' => rw [ek] at hgo; cases hgo
                | ok kd ρk =>
                rw [ek, R.bind_ok] at hgo
                intro kv Hk Fk lek relk rpk
                refine ⟨ρk, Fk, _, io, relk, ?_⟩
                cases e5 : s ρk with
                | stuck => rw [e5] at hgo; cases hgo
                | exc x ρ' => rw [e5] at hgo; cases hgo
                | ok z ρ5 =>
                  rw [e5, R.bind_ok] at hgo
                  intro yv H5 F5 le5 rel5 rp5
                  cases e6 : keyOf kd with
                  | none => rw [e6] at hgo; cases hgo
                  | some k =>
                    rw [e6] at hgo
                    have hgo : (if plainAt ρ5 vs = true then dcompGo vs g t sk s (ds.drop (i + 1)) (dPut (acc.map (·.1)) dn k z) (wipeE ρ5 vs) else .stuck) = R.ok zs ρe := hgo
                    by_cases hp5 : plainAt ρ5 vs = true
                    · rw [if_pos hp5] at hgo
                      have le := (((nw.f.trans le3).trans le4).trans lek).trans le5
                      obtain ⟨k1, k2⟩ := dPut_put (k := k) rp5 (racc.mono le)
                      refine ⟨acc, k, keyOf_vw (H := Fk) (.inl rpk) e6, rel5.rH Dl _ upd_same, Nat.lt_of_le_of_lt hacc (Nat.lt_of_lt_of_le hlt hz), wipeE ρ5 vs, F5, putK acc k yv, (dPut (acc.map (·.1)) dn k z).2, lei.trans le, ?_, Nat.le_trans (length_putK acc k yv) (Nat.succ_le_succ hacc), k2, by rw [k1]; exact hgo⟩
                      have r := rel5.wiped hp5
                      rw [hw] at r
                      exact r.resPut
                    · rw [if_neg hp5] at hgo; cases hgo
        · have hi2 : i = ds.length := by omega
          subst hi2
          rw [List.drop_eq_nil_of_le (Nat.le_refl _)] at hgo
          unfold dcompGo at hgo
          cases hgo
          refine .inl ⟨J1.stop Fi H lei reli.fH, ?_⟩
          obtain ⟨relD, n1, n2, lo⟩ := reli.resDrop nR
          have relB := rel1.back (vs := vs) relD lei hpl
          refine q Dl H Fi (le1.trans lei) relB ⟨n1, nR, _, n2, acc, rfl, rfl, ?_⟩ fun i c d e1 e2 e3 => ?_
          · exact racc
          · have hlen : ρ1.length = ρe.length := by rw [rel1.len, relD.len, wipe_length]
            rw [(backE_get hlen vs).2] at e1
            by_cases hi : i ∈ vs
            · rw [if_pos hi] at e1
              rcases plain_at hpl hi e1 with z | ⟨_, z⟩ <;> (subst z; cases e2)
            · rw [if_neg hi] at e1
              exact lo i c d e1 e2 (by rw [wipe_get, if_neg hi]; exact e3)
theorem d_dcompF {kx vx iter : Expr} {ifs : List Expr} {scope : Scope} {own : List (Str × Nat)} {it : SA} {g : SG} {t : ST} {sk s : SE} {js : List Nat} (hu : At X W) (hi : DI (GK X ex) X W tg iter it) (ok : BlkOk X.N X.env.scope scope own)
    (hg : ∀ (s : Shared) (H : Hp) (C : Addr) (cl : List (Str × Addr)) (fp : List Addr), DG (GK X ex) (X.blk s H scope (compEnvC scope cl C X.env) fp) W0 js tg g)
    (ht : ∀ (s : Shared) (H : Hp) (C : Addr) (cl : List (Str × Addr)) (fp : List Addr), PTs (X.blk s H scope (compEnvC scope cl C X.env) fp) ifs (tT (GK X ex) W0 t))
    (hk : ∀ (s' : Shared) (H : Hp) (C : Addr) (cl : List (Str × Addr)) (fp : List Addr), DE (GK X ex) (X.blk s' H scope (compEnvC scope cl C X.env) fp) W0 kx sk)
    (he : ∀ (s' : Shared) (H : Hp) (C : Addr) (cl : List (Str × Addr)) (fp : List Addr), DE (GK X ex) (X.blk s' H scope (compEnvC scope cl C X.env) fp) W0 vx s) (hjs : js.all (fun j => (own.map (·.2)).contains j) = true) (hs : ∀ x, foldedSetIterable iter X.env x = pure x := by intro _; rfl) :
    DF (GK X ex) X W (.DictComp kx vx [⟨tg, iter, ifs, 0⟩] scope pos) (sDComp (own.map (·.2)) it g t sk s) :=
  wkE (pe_dc hu.calm hu.nd hi ok hg ht hk he hs) fun σ H Q h => dcomp_core hjs h
end
end Dt

set_option Elab.async false
set_option linter.all false
set_option maxRecDepth 100000
set_option maxHeartbeats 4000000
/-! tuple(d.items()). -/
namespace Dt
open PySem PySem.Spec PyProof.Rows L2
section
variable {prog : Program} {w : World} {K : Type} [DecidableEq K] {knd : KeyKind prog w K} {A : Around} {E : Value → Shared → Prop} {s : Shared} {r d : Addr} {kvs : List (K × Value)} {ep : Nat}
abbrev tupOf (as : List Addr) : Obj := { cls := .type "tuple", data := .seq (as.map Value.ref).toArray }
theorem new_tuple_items {Q : Value → Shared → Prop} (hh : A.handled = none) (view : s.heap.IsItemsView r d) (at_ : s.heap.DictAt knd d kvs ep) (room : kvs.length ≤ sizeLine)
    (fin : ∀ (h1 : Heap) (tk : Nat) (as : List Addr), (∀ b o, s.heap.get? b = some o → h1.get? b = some o) → as.length = kvs.length → PySem.W.KdxG knd kvs s.heap.objs.size h1 as → Q (.ref h1.objs.size) { s with heap := h1.push (tupOf as), toks := tk }) :
    codeAny (model prog w) A (.call (.builtin "tuple.__new__") ⟨[.type "tuple", .ref r], []⟩) (wants Q E) s := by
  refine codeAny_of_tree (show wpAny _ A.in1 (do checkBuiltinCall "tuple.__new__" ⟨[.type "tuple", .ref r], []⟩; again (.builtin "tuple.__new__" ⟨[.type "tuple", .ref r], []⟩)) _ _ s from wpAny_bind (wpAny_of_eq (F.newCall_tuple_1 _) (wpAny_pure ⟨plainId_quiet F.plain_tuple_new _, codeAny_builtin F.entry_tuple_new ?_⟩)))
  rw [Around.under_plainId F.plain_tuple_new]
  have k1 := sub_tuple_self; have k2 := init_tuple_lookup; have k3 := madeHere_tuple
  have ty : s.TypeIs (.ref r) "dict_items" := view.typeIs
  have q1 : A.in1.handled = none := hh
  wp_walk using wpAny_typeOf ty, PySem.W.kdx_collect (A := A.in1) q1 view at_ room
  intro h1 tk as old len g
  refine (show wpAny _ _ (Builtin.Tuple.tupleExact (as.map Value.ref).toArray >>= fun v => ret v) _ _ _ from ?_)
  unfold Builtin.Tuple.tupleExact
  exact wpAny_bind (wpAny_newObj_type (wpAny_pure (fin h1 tk as old len g)) (by show (as.map Value.ref).toArray.size ≤ sizeLine; rw [List.size_toArray, List.length_map, len]; exact room))
theorem call_tuple_items {Q : Value → Shared → Prop} (hh : A.handled = none) (view : s.heap.IsItemsView r d) (at_ : s.heap.DictAt knd d kvs ep) (room : kvs.length ≤ sizeLine)
    (fin : ∀ (h1 : Heap) (tk : Nat) (as : List Addr), (∀ b o, s.heap.get? b = some o → h1.get? b = some o) → as.length = kvs.length → PySem.W.KdxG knd kvs s.heap.objs.size h1 as → Q (.ref h1.objs.size) { s with heap := h1.push (tupOf as), toks := tk }) :
    wpAny (model prog w) A (call (.type "tuple") [.ref r]) Q E s :=
  callType_codes (Q₁ := fun v t => t.TypeIs v "tuple" ∧ Q v t) F.called_tuple (F.typeCall_tuple_1 _) F.entry_object_init
    (new_tuple_items (A := A.in1) hh view at_ room fun h1 tk as old len g => ⟨⟨_, Heap.get?_push_size _ rfl, rfl⟩, fin h1 tk as old len g⟩) fun v t h => ⟨h.1, F.args_object_init_2 v _, object_init_meets F.called_tuple.init.lookup F.called_tuple.made (by decide) prog w A.in1 _ t ⟨h.1, rfl, h.2⟩⟩
end
section
variable {X : Cx} {pins : List (Addr × Obj)} {σ : L2.St} {H : Hp} {s : Shared}
/-- the objects of the heap h1 at the addresses, as pairs -/
def putZ (h1 : Heap) : Hp → List Addr → List (Key × V) → Hp
  | H, a :: as, p :: kvs => putZ h1 (upd H a (.frz ((h1.get? a).getD (tupO [])) (.tup [kV p.1, p.2]))) as kvs
  | H, _, _ => H
theorem putZ_off {h1 : Heap} {b : Addr} : ∀ (as : List Addr) (kvs : List (Key × V)) (H : Hp), b ∉ as → putZ h1 H as kvs b = H b
  | [], _, _, _ => rfl
  | _ :: _, [], _, _ => rfl
  | a :: as, p :: kvs, H, h => by
    unfold putZ
    rw [putZ_off as kvs _ (fun z => h (.tail _ z)), upd_ne (fun z => h (by rw [z]; exact .head _))]
theorem putZ_at {h1 : Heap} : ∀ (as : List Addr) (kvs : List (Key × V)) (H : Hp), as.length = kvs.length → as.Nodup → Paired (fun (t : Addr) (p : Key × V) => putZ h1 H as kvs t = some (.frz ((h1.get? t).getD (tupO [])) (.tup [kV p.1, p.2]))) as kvs
  | [], [], _, _, _ => .nil
  | [], _ :: _, _, h, _ => by cases h
  | _ :: _, [], _, h, _ => by cases h
  | a :: as, p :: kvs, H, h, hn => by
    obtain ⟨n1, n2⟩ := List.nodup_cons.mp hn
    exact .cons (by unfold putZ; rw [putZ_off as kvs _ n1, upd_same]) (putZ_at as kvs _ (Nat.succ.inj h) n2)
theorem pairs_laid {h1 : Heap} {tk : Nat} {kvs : List (Key × V)} {vs : List (Key × Value)} {as : List Addr} (I : Inv X pins σ H s) (kv : KV kvs vs) (old : ∀ b o, s.heap.get? b = some o → h1.get? b = some o) (len : as.length = vs.length)
    (g : PySem.W.KdxG (mixKind X.prog X.w) vs s.heap.objs.size h1 as) : ∃ H' : Hp, (∀ b o, H b = some o → H' b = some o) ∧ (∀ t ∈ as, H t = none) ∧ Paired (fun (t : Addr) (q : Key × V) => TupC H' t [kV q.1, q.2]) as kvs ∧ Inv X pins σ H' { s with heap := h1, toks := tk } := by
  have unlike : as.Nodup := g.rise.imp fun {a b} lt => Nat.ne_of_lt lt
  have free : ∀ t ∈ as, H t = none := fun t ht => I.hok.fresh (Nat.le_of_lt (g.above t ht))
  have here := putZ_at (h1 := h1) as kvs H (by rw [len, Paired.length kv]) unlike
  have off := fun b (q : b ∉ as) => putZ_off (h1 := h1) (b := b) as kvs H q
  have keep : ∀ b u, H b = some u → putZ h1 H as kvs b = some u := fun b u e => by rw [off b fun q => by rw [free b q] at e; cases e]; exact e
  have bare : ∀ t ∈ as, ((h1.get? t).getD (tupO [])).dict = none := fun t ht => by
    obtain ⟨j, hj⟩ := List.mem_iff_getElem?.mp ht
    obtain ⟨_, _, _, _, _, e⟩ := g.pairs j t hj
    rw [e]; rfl
  have tups : ∀ {us : List Addr} {ws : List (Key × V)}, (∀ u ∈ us, u ∈ as) → Paired (fun (t : Addr) (p : Key × V) => putZ h1 H as kvs t = some (.frz ((h1.get? t).getD (tupO [])) (.tup [kV p.1, p.2]))) us ws → Paired (fun (t : Addr) (q : Key × V) => TupC (putZ h1 H as kvs) t [kV q.1, q.2]) us ws := fun {us ws} m h => by
    induction h with
    | nil => exact .nil
    | cons e t ih => exact .cons ⟨_, bare _ (m _ (.head _)), e⟩ (ih fun u hu => m u (.tail _ hu))
  refine ⟨putZ h1 H as kvs, keep, free, tups (fun _ h => h) here, I.call' (ch := []) rfl ⟨fun b o q _ _ _ => old b o q, fun b o q _ _ _ => ⟨o.slots, old b o q⟩, fun b o q n _ => ?_, fun b o q _ => ⟨o, old b o q⟩, fun b xs q => keep b _ q, fun b o u q => keep b _ q, fun b ps q => ⟨#[], by rw [keep b _ q]; simp⟩⟩ (fun b u q => ?_) I.bare fun b z => by simp at z⟩
  · rw [off b fun z => absurd (Heap.lt_size q) (Nat.not_lt.mpr (Nat.le_of_lt (g.above b z)))]
    exact n
  · by_cases hb : b ∈ as
    · obtain ⟨j, pk, e1, e2, e3⟩ := LiI.paired_ix here hb
      obtain ⟨key, k, x, f1, f2, f3⟩ := g.pairs j b e1
      obtain rfl : HO.frz ((h1.get? b).getD (tupO [])) (.tup [kV pk.1, pk.2]) = u := Option.some.inj (e3.symm.trans q)
      obtain ⟨⟨k', x'⟩, g1, g2, g3⟩ := LiI.paired_get kv e2
      obtain ⟨rfl, rfl⟩ : k = k' ∧ x = x' := Prod.mk.inj (Option.some.inj (f1.symm.trans g1))
      exact ⟨by show h1.get? b = some ((h1.get? b).getD (tupO [])); rw [f3]; rfl, by show 2 ≤ sizeLine; decide, [key, x], .cons (by rw [g2]; exact relV_key (show keyIs k key = true from f2)) (.cons g3 .nil), ⟨_, f3, rfl, _, rfl⟩⟩
    · rw [off b hb] at q
      exact (I.hok b u q).stay (fun d v _ y => old d v y) (fun d y => keep d _ y) fun d xs y => keep d _ y
def rItemsT : V → Hp → VK → Prop := fun x H Q => ∃ (d : Addr) (kvs : List (Key × V)), x = .ref d ∧ Rd H d (.dK kvs) ∧
  ∀ (H1 : Hp) (p : Addr) (o : Obj) (ts : List Addr), (∀ b o, H b = some o → H1 b = some o) → (∀ t ∈ ts, H t = none) → Paired (fun (t : Addr) (q : Key × V) => TupC H1 t [kV q.1, q.2]) ts kvs → H1 p = none → o.dict = none → Q (.ref p) (upd H1 p (.frz o (.tup (ts.map V.ref))))
def tTupItems (te : TE) : TE := fun σ H Q => te σ H fun x H1 => rItemsT x H1 Q
theorem pe_tupItems {e : Expr} {te : TE} {p apos cpos pos : Pos} (calm : X.calm = true) (he : PE X e te) (g1 : Gl X "tuple") (m1 : X.mg "tuple" = none) (base : attributeBase e "items" X.env (eval e X.env) = eval e X.env := by rfl) (line : (apos.endLine == cpos.line) = true := by rfl)
    (hs : starEach [.Call (.Attribute e "items" apos) [] [] cpos] X.env = (false, eval (.Call (.Attribute e "items" apos) [] [] cpos) X.env) :: starEach [] X.env := by rfl) :
    PE X (.Call (.Name "tuple" p) [.Call (.Attribute e "items" apos) [] [] cpos] [] pos) (tTupItems te) := by
  constructor; intro pins s σ H Q I hq
  refine wpAny_Call_Name_kw (ld_blt I g1 m1 boot_tuple (callWith_type1 ?_ hs rfl)); rw [hs]
  refine (show wpAny _ _ (spliced ((false, eval (.Call (.Attribute e "items" apos) [] [] cpos) X.env) :: backTo pos (starEach [] X.env))) _ _ s from Calls.spliced_cons ?_)
  refine wpAny_Call_method (T := "dict") (id := "dict.items") base rfl line F.plainAttrs_dict F.slot_dict_items F.type_dict_items (thn (he.run pins s σ H _ I hq) fun u t ⟨x, H1, I1, rx, d, kvs, ex, hd, q⟩ => ?_)
  subst ex; obtain rfl : u = Value.ref d := rx
  obtain ⟨sz, h0, vs, kv, dd⟩ := hd.ok I1.hok
  obtain ⟨ep, at_⟩ := dd.dictAt
  have lk : kvs.length = vs.length := Paired.length kv
  have I2 : Inv X pins σ H1 { t with heap := t.heap.push { cls := .type "dict_items", data := .fields #[.ref d] } } := I1.kept (t' := t.toks) fun b ob q => Heap.get?_push_of_some _ q
  refine ⟨dd.typeIs, dd.mapOf.noDict, (show wpAny _ _ (callWith cpos (.builtin "dict.items") [.ref d] [] []) _ X.xe t from ?_)⟩
  refine method_meetsIn F.slot_dict_items F.entry_dict_items rfl (PySem.evalArgs_none ⟨rfl, dd.typeIs, F.args_dict_items_1 _, _, meets_dict_items (mixKind X.prog X.w) d h0, ⟨vs, dd⟩, Calls.spliced_nil ?_⟩)
  refine call_tuple_items (knd := mixKind X.prog X.w) (kvs := vs) (ep := ep) (I1.ok.hd calm) ⟨_, Heap.get?_push_size _ rfl, rfl, rfl⟩ (at_.push _) (by omega) fun h1 tk as old len g => ?_
  obtain ⟨H2, k1, k2, k3, J⟩ := pairs_laid (tk := tk) I2 kv old len g
  exact ⟨.ref h1.objs.size, _, J.laid (t' := tk) (o := .frz (tupOf as) (.tup (as.map V.ref))) (fun b o e => Heap.get?_push_of_some _ e) (Nat.le_refl _) (frz_ok (by rw [List.length_map]; omega) (LiI.vals_refs as)), rfl, q H2 _ _ as k1 k2 k3 (J.hok.fresh (Nat.le_refl _)) rfl⟩
end
def pairsD (ks : List Key) (ds : List D) : List D := List.zipWith (fun k d => .tup [keyD k, d]) ks ds
def gTupItems : List D → Option D
  | [.dct ks ds] => some (.tup (pairsD ks ds))
  | _ => none
section
variable {K : PySem.W.Frag} {F H : Hp}
theorem rps_pairs {F' : Hp} (le : FLe F F') : ∀ {ts : List Addr} {kvs : List (Key × V)} {ds : List D}, Paired (fun (t : Addr) (q : Key × V) => TupC F' t [kV q.1, q.2]) ts kvs → Rps K F (kvs.map (·.2)) ds → Rps K F' (ts.map V.ref) (pairsD (kvs.map (·.1)) ds)
  | _, _, _, .nil, .nil => .nil
  | _, _, _, .cons h t, .cons r rs => .cons (.tup h (.cons (rp_key _) (.cons (r.mono le) .nil))) (rps_pairs le t rs)
def newF (F H1 : Hp) (p : Addr) (o : Obj) (ts : List Addr) : Hp := fun b => if b = p then some (.frz o (.tup (ts.map V.ref))) else if b ∈ ts then H1 b else F b
theorem newF_p {H1 : Hp} {p : Addr} {o : Obj} {ts : List Addr} : newF F H1 p o ts p = some (.frz o (.tup (ts.map V.ref))) := if_pos rfl
theorem newF_t {H1 : Hp} {p b : Addr} {o : Obj} {ts : List Addr} (n : b ≠ p) (m : b ∈ ts) : newF F H1 p o ts b = H1 b := by unfold newF; rw [if_neg n, if_pos m]
theorem newF_o {H1 : Hp} {p b : Addr} {o : Obj} {ts : List Addr} (n : b ≠ p) (m : b ∉ ts) : newF F H1 p o ts b = F b := by unfold newF; rw [if_neg n, if_neg m]
theorem paired_on {α β : Type} {P Q : α → β → Prop} : ∀ {us : List α} {ws : List β}, (∀ u ∈ us, ∀ w, P u w → Q u w) → Paired P us ws → Paired Q us ws
  | _, _, _, .nil => .nil
  | _, _, h, .cons e t => .cons (h _ (.head _) _ e) (paired_on (fun u m => h u (.tail _ m)) t)
theorem items_new (fh : FLe F H) {kvs : List (Key × V)} {ds : List D} (r : Rps K F (kvs.map (·.2)) ds) {H1 : Hp} {p : Addr} {ts : List Addr} (keep : ∀ b o, H b = some o → H1 b = some o) (free : ∀ t ∈ ts, H t = none)
    (at_ : Paired (fun (t : Addr) (q : Key × V) => TupC H1 t [kV q.1, q.2]) ts kvs) (np : H1 p = none) {o : Obj} (ho : o.dict = none) :
    ∃ F', New F H F' (upd H1 p (.frz o (.tup (ts.map V.ref)))) ∧ Rp K F' (.ref p) (.tup (pairsD (kvs.map (·.1)) ds)) := by
  have hp : H p = none := by
    cases e : H p with
    | none => rfl
    | some o => rw [keep p o e] at np; cases np
  have nt : p ∉ ts := fun q => by
    obtain ⟨j, y, _, _, _, _, e⟩ := LiI.paired_ix at_ q
    rw [np] at e; cases e
  have le : FLe F (newF F H1 p o ts) := fun a o e => by
    have h := fh a o e
    rw [newF_o (fun q => by rw [q, hp] at h; cases h) (fun q => by rw [free a q] at h; cases h)]
    exact e
  refine ⟨newF F H1 p o ts, ⟨le, fun a o e => ?_, fun a o e => ?_, fun a o e => ?_, fun h a ps z => ?_⟩, .tup ⟨o, ho, newF_p⟩ (rps_pairs le (paired_on (fun u m w e => ?_) at_) r)⟩
  · rw [upd_ne (fun q => by rw [q, hp] at e; cases e)]
    exact keep a o e
  · by_cases n1 : a = p
    · rw [n1, newF_p] at e; rw [n1, upd_same]; exact e
    · rw [upd_ne n1]
      by_cases n2 : a ∈ ts
      · rw [newF_t n1 n2] at e; exact e
      · rw [newF_o n1 n2] at e; exact keep a o (fh a o e)
  · by_cases n1 : a = p
    · exact .inr (by rw [n1]; exact hp)
    · by_cases n2 : a ∈ ts
      · exact .inr (free a n2)
      · rw [newF_o n1 n2] at e; exact .inl e
  · by_cases n1 : a = p
    · rw [n1, newF_p] at z; cases z
    · by_cases n2 : a ∈ ts
      · obtain ⟨j, y, _, _, _, _, e⟩ := LiI.paired_ix at_ n2
        rw [newF_t n1 n2, e] at z; cases z
      · rw [newF_o n1 n2] at z; exact h a ps z
  · obtain ⟨ob, h1, h2⟩ := e
    exact ⟨ob, h1, by rw [newF_t (fun q : u = p => nt (by rw [← q]; exact m)) m]; exact h2⟩
end
section
variable {G : Gx} {ex : Exx} {X : Cx} {W : WX} {p apos cpos pos : Pos}
theorem psem_tupItems : PSem G (r1L rItemsT) gTupItems := fun F H vs ds d Q fh vw e q => by
  unfold gTupItems at e
  split at e
  · cases e
    cases vw with
    | cons h t =>
      cases t
      obtain ⟨a, kvs, rfl, rd, rfl, r⟩ := h.dct fh
      refine ⟨_, rfl, a, kvs, rfl, rd, fun H1 p o ts keep free at_ np ho => ?_⟩
      obtain ⟨F', nw, rp⟩ := items_new fh r keep free at_ np ho
      exact q _ _ F' nw rp
  · cases e
theorem d_tupItems {e : Expr} {se : SO} (calm : X.calm = true) (g1 : Gl X "tuple") (m1 : X.mg "tuple" = none) (he : DO (GK X ex) X W e se) (base : attributeBase e "items" X.env (eval e X.env) = eval e X.env := by rfl) (line : (apos.endLine == cpos.line) = true := by rfl)
    (hs : starEach [.Call (.Attribute e "items" apos) [] [] cpos] X.env = (false, eval (.Call (.Attribute e "items" apos) [] [] cpos) X.env) :: starEach [] X.env := by rfl) :
    DE (GK X ex) X W (.Call (.Name "tuple" p) [.Call (.Attribute e "items" apos) [] [] cpos] [] pos) (sOps gTupItems (b1 se)) :=
  wkE (pe_tupItems calm he g1 m1 base line hs) fun σ H Q h => one_ops (r := rItemsT) psem_tupItems h
end
end Dt

set_option Elab.async false
set_option linter.all false
set_option maxRecDepth 100000
set_option maxHeartbeats 4000000
/-! t[::-1], t a tuple or a list. -/
namespace Dt
open PySem PySem.Spec PyProof.Rows L2
section
variable {prog : Program} {w : World} {A : Around} {E : Value → Shared → Prop} {s : Shared}
theorem back_places (n : Nat) : Builtin.Slice.sliceAdjust none none (-1) (n : Int) = ((n : Int) - 1, -1) ∧ Builtin.Slice.slicePlaces ((n : Int) - 1) (-1) (-1) = n := by
  refine ⟨by unfold Builtin.Slice.sliceAdjust; simp, ?_⟩
  unfold Builtin.Slice.slicePlaces
  have h1 : ¬ (-1 : Int) > 0 := by omega
  simp only [h1, if_false, Int.neg_neg, Int.ediv_one]
  split <;> omega
theorem back_pick (xs : Array Value) : (List.range xs.size).filterMap (fun (k : Nat) => xs[(((xs.size : Int) - 1) + (k : Int) * -1).toNat]?) = xs.toList.reverse := by
  have e : (fun (k : Nat) => xs[(((xs.size : Int) - 1) + (k : Int) * -1).toNat]?) = (fun j => xs[j]?) ∘ fun k => xs.size - 1 - k := funext fun k => by
    show _ = xs[xs.size - 1 - k]?
    rw [show (((xs.size : Int) - 1) + (k : Int) * -1).toNat = xs.size - 1 - k by omega]
  rw [e, ← List.filterMap_map, PySem.W.krv_range, List.filterMap_reverse, PySem.W.krv_all]
theorem applied_back {sl : Addr} {vl vu vs : Value} {n : Nat} {Q : Int × Int × Nat → Shared → Prop} (hs : s.heap.IsSliceOf sl vl vu vs) (pl : IsPart vl none) (pu : IsPart vu none) (ps : IsPart vs (some (-1))) (h : Q ((n : Int) - 1, -1, n) s) :
    wpAny (model prog w) A (Builtin.Slice.sliceApplied (.ref sl) (pure (n : Int))) Q E s := by
  obtain ⟨o, at_, c, d⟩ := id hs
  unfold Builtin.Slice.sliceApplied Builtin.Slice.sliceFields
  refine wpAny_bind (wpAny_bind (wpAny_field at_ d (x := vl) rfl (wpAny_bind (wpAny_field at_ d (x := vu) rfl (wpAny_bind (wpAny_field at_ d (x := vs) rfl (wpAny_pure (wpAny_bind (HT.slicePart_ ps ?_)))))))))
  refine (show wpAny _ _ (if ((-1 : Int) == 0) = true then _ else _) _ _ s from ?_)
  rw [if_neg (by decide)]
  refine wpAny_bind (HT.slicePart_ pl (wpAny_bind (HT.slicePart_ pu (wpAny_bind (wpAny_pure (show wpAny _ _ (match Builtin.Slice.sliceAdjust none none (-1) (n : Int) with | (lo, hi) => pure (lo, (-1 : Int), Builtin.Slice.slicePlaces lo hi (-1))) _ _ s from ?_))))))
  rw [(back_places n).1]
  refine (show wpAny _ _ (pure ((n : Int) - 1, (-1 : Int), Builtin.Slice.slicePlaces ((n : Int) - 1) (-1) (-1))) _ _ s from ?_)
  rw [(back_places n).2]
  exact wpAny_pure h
theorem getItem_tuple_back {t sl : Addr} {items : Array Value} {vl vu vs : Value} {Q : Value → Shared → Prop} (ht : IsTup s.heap t items) (hs : s.heap.IsSliceOf sl vl vu vs) (pl : IsPart vl none) (pu : IsPart vu none) (ps : IsPart vs (some (-1)))
    (h : Q (.ref s.heap.objs.size) { s with heap := s.heap.push { cls := .type "tuple", data := .seq items.toList.reverse.toArray } }) (room : items.size ≤ sizeLine) : wpAny (model prog w) A (getItem (.ref t) (.ref sl)) Q E s := by
  have fits : sizeOk (.seq items.toList.reverse.toArray) := by show items.toList.reverse.toArray.size ≤ sizeLine; simpa using room
  obtain ⟨o, at_, c, d⟩ := id hs
  have ty : s.TypeIs (.ref sl) "slice" := ⟨o, at_, c⟩
  unfold getItem
  try (with_reducible refine wpAny_holding ?_); try refine wpAny_bind (wpAny_pure ?_)
  refine wpAny_bind (wpAny_sequenceKey ht.typeIs (by decide) (wpAny_bind (wpAny_callSpecial?_slot (name := Str.ofString "__getitem__") ht.typeIs PyProof.Rows.slot_tuple_getitem (wpAny_call_entry PyProof.Rows.slot_tuple_getitem ht.typeIs entry_tuple_getitem ?_ (args_tuple_getitem _ _)))))
  refine (show wpAny _ _ (Builtin.Tuple.tupleItemsOf (.ref t) >>= _) _ _ s from wpAny_bind (tupleItemsOf_ ht (wpAny_bind (wpAny_typeOf ty ?_))))
  rw [if_pos (by decide)]
  refine wpAny_bind (applied_back hs pl pu ps ?_)
  refine (show wpAny _ _ (if (((items.size : Int) - 1) == 0 && (-1 : Int) == 1 && items.size == items.size) = true then _ else _) _ _ s from ?_)
  rw [if_neg (by simp), back_pick]
  first
    | exact wpAny_bind (m := Builtin.Tuple.tupleExact _) (wpAny_newObj_type (wpAny_pure ⟨_, rfl, wpAny_pure h⟩) fits)
    | exact wpAny_bind (m := Builtin.Tuple.tupleExact _) (wpAny_newObj_type (wpAny_bind (wpAny_pure (wpAny_pure ⟨_, rfl, wpAny_pure h⟩))) fits)
    | exact wpAny_bind (wpAny_bind (m := Builtin.Tuple.tupleExact _) (wpAny_newObj_type (wpAny_pure (wpAny_pure ⟨_, rfl, wpAny_pure h⟩)) fits))
    | exact wpAny_bind (wpAny_bind (m := Builtin.Tuple.tupleExact _) (wpAny_newObj_type (wpAny_pure ⟨_, rfl, wpAny_pure h⟩) fits))
end
section
variable {X : Cx} {W : WX} {ex : Exx} {a : Expr} {pos : Pos} {sa : SO}
def tRevT (K : PySem.W.Frag) (te : TE) : TE := fun σ H Q => te σ H fun x H1 => ∃ (a : Addr) (xs : List V), x = V.ref a ∧ SqT K H1 a xs ∧ NewT H1 xs.reverse Q
theorem pe_revT {e : Expr} {te : TE} {k : Nat} {p1 p2 p3 : Pos} (he : PE X e te) : PE X (.Subscript e (.Slice none none (some (.UnaryOp .USub (.Constant (.int 1) k p1) p2)) p3) pos) (tRevT X.K te) := by
  constructor; intro pins s σ H Q I h
  refine Subscript_ (thn (he.run pins s σ H _ I h) fun v t ⟨x, H1, I1, r1, l, xs, ex, hx, q⟩ => ?_)
  subst ex; cases r1
  have step : PO X (some (.UnaryOp .USub (.Constant (.int 1) k p1) p2)) (tPart (tUn (rU fun i => .int (-i)) (tC (.int 1)))) := po_some (pe_un un_neg pe_int)
  refine wpAny_Slice (thn (po_none.run pins t σ H1 (fun o H2 => o = none ∧ H2 = H1) I1 ⟨rfl, rfl⟩) fun vl t2 ⟨lo, H2, I2, pl, e1, e2⟩ => ?_)
  subst e1 e2
  refine thn (po_none.run pins t2 σ H2 (fun o H3 => o = none ∧ H3 = H2) I2 ⟨rfl, rfl⟩) fun vu t3 ⟨hi, H3, I3, pu, e3, e4⟩ => ?_
  subst e3 e4
  refine thn (step.run pins t3 σ H3 (fun o H4 => o = some (-1) ∧ H4 = H3) I3 ⟨1, rfl, -1, rfl, rfl, rfl⟩) fun vs t4 ⟨st, H4, I4, ps, e5, e6⟩ => ?_
  subst e5 e6
  have I5 : Inv X pins σ H4 { t4 with heap := t4.heap.push { cls := .type "slice", data := .fields #[vl, vu, vs] } } := I4.kept (t' := t4.toks) fun b ob q => Heap.get?_push_of_some _ q
  obtain ⟨its, r, ht, hz⟩ := I5.tuple hx
  have hlen := r.length
  refine (show wpAny (model X.prog X.w) X.A (subscriptTail e (.Slice none none (some (.UnaryOp .USub (.Constant (.int 1) k p1) p2)) p3) (.ref l) (.ref t4.heap.objs.size)) (EP X pins σ Q) X.xe { t4 with heap := t4.heap.push { cls := .type "slice", data := .fields #[vl, vu, vs] } } from
    tail_any (ops := [.ref l, .ref t4.heap.objs.size]) ht.typeIs (PyProof.Rows.slot_tuple_getitem.lookup) (getItem_tuple_back ht (Heap.IsSliceOf.new _ vl vu vs) pl pu ps ?_ (by rw [List.size_toArray]; omega)) (by with_unfolding_all rfl))
  exact made I5 r.reverse (by rw [List.length_reverse]; exact hz) q
theorem pe_either {e : Expr} {t u : TE} (h : PE X e t) (k : PE X e u) : PE X e (fun σ H Q => t σ H Q ∨ u σ H Q) := ⟨fun pins s σ H Q I q => q.elim (h.run pins s σ H Q I) (k.run pins s σ H Q I)⟩
/-- s[::-1] as a value, s a tuple or a list -/
def sRevE (s : SO) : SE := fun ρ => (s ρ).bind fun o ρ' => match o.get ρ' with
  | some (.lst xs) => .ok (.lst xs.reverse) ρ'
  | some (.tup xs) => .ok (.tup xs.reverse) ρ'
  | _ => .stuck
@[simp] theorem ev_revE (s : SO) (ρ : Env) : sRevE s ρ = (s ρ).bind fun o ρ' => match o.get ρ' with | some (.lst xs) => .ok (.lst xs.reverse) ρ' | some (.tup xs) => .ok (.tup xs.reverse) ρ' | _ => .stuck := rfl
theorem d_revE {k : Nat} {p1 p2 p3 : Pos} (ha : DO (GK X ex) X W a sa) : DE (GK X ex) X W (.Subscript a (.Slice none none (some (.UnaryOp .USub (.Constant (.int 1) k p1) p2)) p3) pos) (sRevE sa) :=
  wkE (pe_either (pe_revL ha) (pe_revT ha)) fun σ H Q ⟨ρ, F, Rv, io, rel, q⟩ => by
    unfold sRevE at q
    cases e : sa ρ with
    | stuck => rw [e] at q; exact q.elim
    | exc x ρ' => rw [e] at q; exact .inl ⟨ρ, F, Rv, io, rel, by rw [e]; exact q⟩
    | ok o ρ1 =>
      rw [e, R.bind_ok] at q
      cases e4 : o.get ρ1 with
      | none => rw [e4] at q; exact q.elim
      | some d =>
        rw [e4] at q
        cases d with
        | lst xs =>
          refine .inl ⟨ρ, F, Rv, io, rel, by
            rw [e]
            intro v H1 F1 le1 rel1 ok1
            obtain ⟨a, zs, rfl, t, r⟩ := (rel1.view (G := GK X ex) ok1 e4).lst rel1.fH
            exact ⟨a, zs, rfl, SqL.of t, fun p hp => q _ _ _ (le1.trans (FLe.upd _ (rel1.fH.noneOf hp))) (rel1.after (New.obj rel1.fH hp _)) (.lst upd_same (r.reverse.mono (FLe.upd _ (rel1.fH.noneOf hp))))⟩⟩
        | tup xs =>
          refine .inr ⟨ρ, F, Rv, io, rel, by
            rw [e]
            intro v H1 F1 le1 rel1 ok1
            obtain ⟨a, zs, rfl, t, r⟩ := (rel1.view (G := GK X ex) ok1 e4).sqT rel1.fH
            exact ⟨a, zs, rfl, t, fun p o hp ho => q _ _ _ (le1.trans (FLe.upd _ (rel1.fH.noneOf hp))) (rel1.after (New.obj rel1.fH hp _)) (.tup (.new ho) (r.reverse.mono (FLe.upd _ (rel1.fH.noneOf hp))))⟩⟩
        | _ => exact q.elim
end
end Dt

set_option Elab.async false
set_option linter.all false
set_option maxRecDepth 100000
set_option maxHeartbeats 4000000
/-! dict(t), t a tuple of pairs. -/
namespace Dt
open PySem PySem.Spec PyProof.Rows L2
section
variable {X : Cx} {pins : List (Addr × Obj)} {σ : L2.St} {H : Hp} {s : Shared}
theorem pairsV (I : Inv X pins σ H s) : ∀ {ps : List Addr} {kvs : List (Key × V)}, Paired (fun p kv => SqT X.K H p [kV kv.1, kv.2]) ps kvs →
    ∃ (us : List (Value × Value)) (prs : List (Key × Value)), KV kvs prs ∧ us.length = ps.length ∧ prs.length = ps.length ∧ ∀ (j : Nat) (k v : Value), us[j]? = some (k, v) → ∃ (b : Addr) (key : Key), ps[j]? = some b ∧ IsTup s.heap b #[k, v] ∧ prs[j]? = some (key, v) ∧ keyIs key k = true
  | _, _, .nil => ⟨[], [], .nil, rfl, rfl, fun j k v e => by simp at e⟩
  | _, _, .cons (a := p) (b := kv) h t => by
    obtain ⟨us, prs, r, l1, l2, hp⟩ := pairsV I t
    obtain ⟨its, rv, ht, _⟩ := I.tuple h
    obtain ⟨u, y, ei, ru, ry⟩ := vals2 rv
    subst ei
    refine ⟨(u, y) :: us, (kv.1, y) :: prs, .cons ⟨rfl, ry⟩ r, by simp [l1], by simp [l2], fun j k v e => ?_⟩
    cases j with
    | zero =>
      obtain ⟨rfl, rfl⟩ := Prod.mk.inj (Option.some.inj e)
      exact ⟨p, kv.1, rfl, ht, rfl, kV_is (P := X.prog) (w := X.w) ru⟩
    | succ j =>
      obtain ⟨b, key, e1, e2, e3, e4⟩ := hp j k v (by simpa using e)
      exact ⟨b, key, by simpa using e1, e2, by simpa using e3, e4⟩
def rDictT0 (K : PySem.W.Frag) : List V → Hp → VK → Prop := fun xs H Q => ∃ (a : Addr) (ps : List Addr) (kvs : List (Key × V)), xs = [V.ref a] ∧ TupC H a (ps.map V.ref) ∧ Paired (fun p kv => SqT K H p [kV kv.1, kv.2]) ps kvs ∧ ∀ p, H p = none → Q (.ref p) (upd H p (.dK (mergeK [] kvs)))
theorem call_dictT0 (calm : X.calm = true) : CallR X (.type "dict") (rDictT0 X.K) := by
  intro pins s σ H xs us Q I r ⟨a, ps, kvs, ex, ⟨o, hd, ha⟩, hp, q⟩
  subst ex
  obtain ⟨u, eu, rx⟩ := vals1 r
  subst eu; cases rx
  obtain ⟨at1, hz, its, rv, o2, at2, hc, n, hdat⟩ := I.hok a _ ha
  obtain rfl : o = o2 := Option.some.inj (at1.symm.trans at2)
  obtain rfl := refs_at rv
  rw [List.length_map] at hz
  obtain ⟨vs, prs, rel, l1, l2, hpr⟩ := pairsV I hp
  refine PySem.call_dict_pairs (knd := mixKind X.prog X.w) (kvs := prs) (PairArg.tuple a (ps.map Value.ref).toArray (fun j => ps.getD j 0) vs) (I.ok.hd calm) ⟨⟨o, n, at1, hc, hd, hdat⟩, by simp [l1], fun j k v e => ?_⟩ ⟨by omega, fun j k v e => ?_⟩ (by omega) fun h1 tk hd1 old => ?_
  · obtain ⟨b, key, e1, e2, e3, e4⟩ := hpr j k v e
    exact ⟨by simp [e1], .inl (by show s.heap.IsTuple (ps.getD j 0) #[k, v]; rw [List.getD_eq_getElem?_getD, e1]; exact e2)⟩
  · obtain ⟨b, key, e1, e2, e3, e4⟩ := hpr j k v e
    exact ⟨key, e3, e4⟩
  · have big : (s.heap.objs.size == sysModules) = false := beq_eq_false_iff_ne.mpr (Nat.ne_of_gt I.big)
    have fits : (mergeK [] kvs).length ≤ sizeLine := Nat.le_trans (length_mergeK kvs []) (by rw [List.length_nil, Nat.zero_add, rel.length, l2]; exact hz)
    exact ⟨.ref s.heap.objs.size, _, I.laid (t' := tk) (o := .dK (mergeK [] kvs)) (fun b o e => old b o (by simp) e) (Nat.le_refl _) ⟨fits, big, merged [] prs, KV.merge rel .nil, hd1⟩, rfl, q _ (I.hok.fresh (Nat.le_refl _))⟩
/-- .. or the copy of a dict -/
def rDictL (K : PySem.W.Frag) : List V → Hp → VK → Prop := fun xs H Q => ∃ (a : Addr) (ps : List Addr) (kvs : List (Key × V)), xs = [V.ref a] ∧ SqL K H a (ps.map V.ref) ∧ Paired (fun p kv => SqT K H p [kV kv.1, kv.2]) ps kvs ∧ ∀ p, H p = none → Q (.ref p) (upd H p (.dK (mergeK [] kvs)))
def rDictT (K : PySem.W.Frag) : List V → Hp → VK → Prop := fun xs H Q => rDictT0 K xs H Q ∨ (∃ (a : Addr) (kvs : List (Key × V)), xs = [V.ref a] ∧ Rd H a (.dK kvs) ∧ ∀ p, H p = none → Q (.ref p) (upd H p (.dK kvs))) ∨ rDictL K xs H Q
theorem call_dictT (calm : X.calm = true) : CallR X (.type "dict") (rDictT X.K) := by
  intro pins s σ H xs us Q I r h
  rcases h with h | h | h
  · exact call_dictT0 calm pins s σ H xs us Q I r h
  · exact call_dictD pins s σ H xs us Q I r h
  · exact call_dictP calm pins s σ H xs us Q I r h
end
/-- the pairs' keys and values, one put behind the other -/
def dictGo : List D → List Key × List D → Option (List Key × List D)
  | [], acc => some acc
  | .tup [k, d] :: ds, acc => (keyOf k).bind fun k => dictGo ds (dPut acc.1 acc.2 k d)
  | _ :: _, _ => none
def gDict : List D → Option D
  | [.tup ds] => (dictGo ds ([], [])).map fun r => .dct r.1 r.2
  | [.dct ks ds] => some (.dct ks ds)
  | [.lst ds] => (dictGo ds ([], [])).map fun r => .dct r.1 r.2
  | _ => none
section
variable {K : PySem.W.Frag} {F H : Hp}
theorem dict_go_rps : ∀ {vs : List V} {ds : List D} {acc : List (Key × V)} {da : List D} {r : List Key × List D}, Rps K F vs ds → Rps K F (acc.map (·.2)) da → dictGo ds (acc.map (·.1), da) = some r →
    ∃ (ps : List Addr) (kvs : List (Key × V)), vs = ps.map V.ref ∧ Paired (fun p kv => TupC F p [kV kv.1, kv.2]) ps kvs ∧ (mergeK acc kvs).map (·.1) = r.1 ∧ Rps K F ((mergeK acc kvs).map (·.2)) r.2
  | _, _, acc, da, r, .nil, ra, e => by
    cases e
    exact ⟨[], [], rfl, .nil, rfl, ra⟩
  | _, _, acc, da, r, .cons (v := v) (d := d) h t, ra, e => by
    unfold dictGo at e
    split at e
    · rename_i h0; cases h0
    · rename_i k d ds h0
      cases h0
      cases h with
      | tup tc r2 =>
        cases r2 with
        | cons hk r3 =>
          cases r3 with
          | cons hd r4 =>
            cases r4
            cases ek : keyOf k with
            | none => rw [ek] at e; cases e
            | some key =>
              rw [ek, Option.bind_some] at e
              have ew := keyOf_vw (H := F) (.inl hk) ek
              subst ew
              obtain ⟨k1, k2⟩ := dPut_put (k := key) hd ra
              obtain ⟨ps, kvs, e1, e2, e3, e4⟩ := dict_go_rps (acc := putK acc key _) t k2 (by rw [k1]; exact e)
              exact ⟨_ :: ps, (key, _) :: kvs, by rw [e1]; rfl, .cons tc e2, e3, e4⟩
    · cases e
end
section
variable {G : Gx} {ex : Exx} {X : Cx} {W : WX}
theorem fsem_dict : FSem G (rDictT G.K) gDict := fun F H vs ds d Q fh vw e q => by
  unfold gDict at e
  split at e
  · rename_i ds
    cases e1 : dictGo ds ([], []) with
    | none => rw [e1] at e; cases e
    | some r =>
      rw [e1] at e
      cases e
      cases vw with
      | cons h t =>
        cases t
        rcases h with h | ⟨_, _, _, _, h⟩
        · cases h with
          | tup tc rs =>
            obtain ⟨ps, kvs, e2, e3, e4, e5⟩ := dict_go_rps (acc := []) rs .nil e1
            subst e2
            exact .inl ⟨_, ps, kvs, rfl, fh.tupC tc, paired_on (fun u _ w hw => (fh.tupC hw).sq) e3, fun p hp => q p _ hp ⟨_, rfl, e4, e5⟩⟩
        · exact h.elim
  · cases e
    obtain ⟨v, rfl, h⟩ := vw.one
    obtain ⟨a, kvs, rfl, rd, rfl, r⟩ := h.dct fh
    exact .inr (.inl ⟨a, kvs, rfl, rd, fun p hp => q p _ hp ⟨_, rfl, rfl, r⟩⟩)
  · rename_i ds
    cases e1 : dictGo ds ([], []) with
    | none => rw [e1] at e; cases e
    | some r =>
      rw [e1] at e
      cases e
      obtain ⟨v, rfl, h⟩ := vw.one
      obtain ⟨a, zs, rfl, t, rs⟩ := h.lst fh
      obtain ⟨ps, kvs, e2, e3, e4, e5⟩ := dict_go_rps (acc := []) rs .nil e1
      subst e2
      exact .inr (.inr ⟨a, ps, kvs, rfl, SqL.of t, paired_on (fun u _ w hw => (fh.tupC hw).sq) e3, fun p hp => q p _ hp ⟨_, rfl, e4, e5⟩⟩)
  · cases e
end
/-! ### d.get(k), d.get(k, x) -/
def sGet1 (so : SO) (sk : SE) : SE := fun ρ => (so ρ).bind fun o ρ1 => match o.get ρ1 with
  | some (.dct _ _) => (sk ρ1).bind fun kd ρ2 => match o.get ρ2, keyOf kd with
    | some (.dct ks ds), some k => .ok ((dLook ks ds k).getD .non) ρ2
    | _, _ => .stuck
  | _ => .stuck
def sGet2 (so : SO) (sk sx : SE) : SE := fun ρ => (so ρ).bind fun o ρ1 => match o.get ρ1 with
  | some (.dct _ _) => (sk ρ1).bind fun kd ρ2 => (sx ρ2).bind fun x ρ3 => match o.get ρ3, keyOf kd with
    | some (.dct ks ds), some k => .ok ((dLook ks ds k).getD x) ρ3
    | _, _ => .stuck
  | _ => .stuck
@[simp] theorem ev_get1 (so : SO) (sk : SE) (ρ : Env) : sGet1 so sk ρ = (so ρ).bind fun o ρ1 => match o.get ρ1 with
  | some (.dct _ _) => (sk ρ1).bind fun kd ρ2 => match o.get ρ2, keyOf kd with
    | some (.dct ks ds), some k => .ok ((dLook ks ds k).getD .non) ρ2
    | _, _ => .stuck
  | _ => .stuck := rfl
@[simp] theorem ev_get2 (so : SO) (sk sx : SE) (ρ : Env) : sGet2 so sk sx ρ = (so ρ).bind fun o ρ1 => match o.get ρ1 with
  | some (.dct _ _) => (sk ρ1).bind fun kd ρ2 => (sx ρ2).bind fun x ρ3 => match o.get ρ3, keyOf kd with
    | some (.dct ks ds), some k => .ok ((dLook ks ds k).getD x) ρ3
    | _, _ => .stuck
  | _ => .stuck := rfl
section
variable {ex : Exx} {X : Cx} {W : WX} {o e f : Expr} {apos cpos : Pos} {so : SO} {sk sx : SE}
theorem vw_isD {K : PySem.W.Frag} {F H : Hp} (fh : FLe F H) {v : V} {ks : List Key} {ds : List D} (h : Vw K F H v (.dct ks ds)) : ∃ a, v = .ref a ∧ IsD H a := by
  obtain ⟨a, kvs, e, rd, _⟩ := h.dct fh
  exact ⟨a, e, .inl ⟨kvs, rd⟩⟩
theorem d_get1 (hu : At X W) (ho : DO (GK X ex) X W o so) (he : DE (GK X ex) X W e sk) (m : M1 X o "get" apos e cpos := by exact ⟨rfl, rfl, rfl, rfl⟩) : DE (GK X ex) X W (.Call (.Attribute o "get" apos) [e] [] cpos) (sGet1 so sk) :=
  wkE (pe_dget1 (by have := hu.un; omega) ho he m) fun σ H Q ⟨ρ, F, Rv, io, rel, q⟩ => by
    refine ⟨ρ, F, Rv, io, rel, ?_⟩
    unfold sGet1 at q
    cases e1 : so ρ with
    | stuck => rw [e1] at q; exact q.elim
    | exc x ρ' => rw [e1] at q; exact q
    | ok od ρ1 =>
      rw [e1, R.bind_ok] at q
      intro v H1 F1 le1 rel1 ok1
      cases e2 : od.get ρ1 with
      | none => rw [e2] at q; exact q.elim
      | some d =>
        rw [e2] at q
        cases d with
        | dct ks ds =>
          obtain ⟨a, rfl, isd⟩ := vw_isD rel1.fH (rel1.view (G := GK X ex) ok1 e2)
          refine ⟨a, rfl, isd, ρ1, F1, Rv, io, rel1, ?_⟩
          cases e3 : sk ρ1 with
          | stuck => rw [e3] at q; exact q.elim
          | exc x ρ' => rw [e3] at q; exact XPost.le q le1
          | ok kd ρ2 =>
            rw [e3] at q
            intro kv H2 F2 le2 rel2 rk
            have q : match (match od.get ρ2, keyOf kd with | some (.dct ks ds), some k => R.ok ((dLook ks ds k).getD .non) ρ2 | _, _ => .stuck) with | .ok d ρ' => EPost (GK X ex) io Rv F σ ρ' d Q | .exc x ρ' => XPost (GK X ex) W io Rv F ρ' x | .stuck => False := q
            cases e4 : od.get ρ2 with
            | none => rw [e4] at q; exact q.elim
            | some d2 =>
              rw [e4] at q
              cases d2 with
              | dct ks2 ds2 =>
                cases e5 : keyOf kd with
                | none => rw [e5] at q; exact q.elim
                | some k =>
                  rw [e5] at q
                  have q : EPost (GK X ex) io Rv F σ ρ2 ((dLook ks2 ds2 k).getD .non) Q := q
                  obtain ⟨b, kvs, eb, rd, ek, r⟩ := (rel2.view (G := GK X ex) (ok1.mono le2) e4).dct rel2.fH
                  cases eb
                  have ew := keyOf_vw (H := F2) (.inl rk) e5
                  refine ⟨valV kvs k, .inl ⟨kvs, k, rd, ew, rfl⟩, ?_⟩
                  rcases dLook_val k ek r with ⟨z1, z2⟩ | ⟨u, d', z1, z2, rp⟩
                  · rw [z1]; rw [z2] at q; exact q _ _ _ (le1.trans le2) rel2 .non
                  · rw [z1]; rw [z2] at q; exact q _ _ _ (le1.trans le2) rel2 rp
              | _ => exact q.elim
        | _ => exact q.elim
theorem d_get2 (hu : At X W) (ho : DO (GK X ex) X W o so) (he : DE (GK X ex) X W e sk) (hf : DE (GK X ex) X W f sx) (m : M2 X o "get" apos e f cpos := by exact ⟨rfl, rfl, rfl, rfl⟩) : DE (GK X ex) X W (.Call (.Attribute o "get" apos) [e, f] [] cpos) (sGet2 so sk sx) :=
  wkE (pe_dget2 (by have := hu.un; omega) ho he hf m) fun σ H Q ⟨ρ, F, Rv, io, rel, q⟩ => by
    refine ⟨ρ, F, Rv, io, rel, ?_⟩
    unfold sGet2 at q
    cases e1 : so ρ with
    | stuck => rw [e1] at q; exact q.elim
    | exc x ρ' => rw [e1] at q; exact q
    | ok od ρ1 =>
      rw [e1, R.bind_ok] at q
      intro v H1 F1 le1 rel1 ok1
      cases e2 : od.get ρ1 with
      | none => rw [e2] at q; exact q.elim
      | some d =>
        rw [e2] at q
        cases d with
        | dct ks ds =>
          obtain ⟨a, rfl, isd⟩ := vw_isD rel1.fH (rel1.view (G := GK X ex) ok1 e2)
          refine ⟨a, rfl, isd, ρ1, F1, Rv, io, rel1, ?_⟩
          cases e3 : sk ρ1 with
          | stuck => rw [e3] at q; exact q.elim
          | exc x ρ' => rw [e3] at q; exact XPost.le q le1
          | ok kd ρ2 =>
            rw [e3] at q
            intro kv H2 F2 le2 rel2 rk
            refine ⟨ρ2, F2, Rv, io, rel2, ?_⟩
            have q : match ((sx ρ2).bind fun x ρ3 => match od.get ρ3, keyOf kd with | some (.dct ks ds), some k => R.ok ((dLook ks ds k).getD x) ρ3 | _, _ => .stuck) with | .ok d ρ' => EPost (GK X ex) io Rv F σ ρ' d Q | .exc x ρ' => XPost (GK X ex) W io Rv F ρ' x | .stuck => False := q
            cases e6 : sx ρ2 with
            | stuck => rw [e6] at q; exact q.elim
            | exc x ρ' => rw [e6] at q; exact XPost.le q (le1.trans le2)
            | ok xd ρ3 =>
            rw [e6, R.bind_ok] at q
            intro xv H3 F3 le3 rel3 rx
            cases e4 : od.get ρ3 with
            | none => rw [e4] at q; exact q.elim
            | some d2 =>
              rw [e4] at q
              cases d2 with
              | dct ks2 ds2 =>
                cases e5 : keyOf kd with
                | none => rw [e5] at q; exact q.elim
                | some k =>
                  rw [e5] at q
                  have q : EPost (GK X ex) io Rv F σ ρ3 ((dLook ks2 ds2 k).getD xd) Q := q
                  obtain ⟨b, kvs, eb, rd, ek, r⟩ := (rel3.view (G := GK X ex) (ok1.mono (le2.trans le3)) e4).dct rel3.fH
                  cases eb
                  have ew := keyOf_vw (H := F2) (.inl rk) e5
                  refine ⟨valV kvs k, .inl ⟨kvs, k, rd, ew, rfl⟩, ?_⟩
                  rcases dLook_val k ek r with ⟨z1, z2⟩ | ⟨u, d', z1, z2, rp⟩
                  · rw [z1]; rw [z2] at q; exact q _ _ _ ((le1.trans le2).trans le3) rel3 rx
                  · rw [z1]; rw [z2] at q; exact q _ _ _ ((le1.trans le2).trans le3) rel3 rp
              | _ => exact q.elim
        | _ => exact q.elim
end
end Dt

set_option Elab.async false
set_option linter.all false
set_option maxRecDepth 100000
set_option maxHeartbeats 4000000
/-! Statements that never run; two and three variables set at once. -/
namespace Dt
open PySem PySem.Spec PyProof.Rows L2
section
variable {ex : Exx} {X : Cx} {W : WX} {pos : Pos}
/-- a statement whose meaning is stuck: that it is never run is the plain law's to show -/
def sNever : SS := fun _ => .stuck
@[simp] theorem ev_never (ρ : Env) : sNever ρ = .stuck := rfl
theorem d_never {st : Stmt} : DS (GK X ex) X W st sNever := ⟨fun pins s σ H D I h => by
  obtain ⟨ρ, F, Rv, io, rel, q⟩ := h
  exact q.elim⟩
/-- a, b = x, y -/
def sPar (i j : Nat) (s : SA) : SS := fun ρ => (s ρ).bind fun ds ρ1 => match ds with
  | [d, e] => (gSet i d ρ1).bind fun _ ρ2 => (gSet j e ρ2).bind fun _ ρ3 => .ok .nx ρ3
  | _ => .stuck
@[simp] theorem ev_par (i j : Nat) (s : SA) (ρ : Env) : sPar i j s ρ = (s ρ).bind fun ds ρ1 => match ds with
  | [d, e] => (gSet i d ρ1).bind fun _ ρ2 => (gSet j e ρ2).bind fun _ ρ3 => .ok .nx ρ3
  | _ => .stuck := rfl
theorem d_par {i j : Nat} {x y : Str} {a b : Expr} {sA : SA} {px py pt : Pos} {kt k2 pt2} (hu : At X W) (hi : X.N[i]? = some x) (hj : X.N[j]? = some y) (hij : i ≠ j) (hx : X.env.scope.names.lookup x = some .local) (hy : X.env.scope.names.lookup y = some .local)
    (ha : DA (GK X ex) X W [a, b] sA) (hw : swappedStores [.Tuple [.Name x px, .Name y py] kt pt] (.Tuple [a, b] k2 pt2) X.env = pure (some [x, y])) (hs : swapsWithSole [.Tuple [.Name x px, .Name y py] kt pt] (.Tuple [a, b] k2 pt2) pos.line X.env = pure false := by rfl) :
    DS (GK X ex) X W (.Assign [.Tuple [.Name x px, .Name y py] kt pt] (.Tuple [a, b] k2 pt2) pos) (sPar i j sA) := wkS (ps_par hu.calm hu.nd hi hj hij hx hy ha hw hs) fun D σ H ⟨ρ, F, Rv, io, rel, q⟩ => by
  refine ⟨ρ, F, Rv, io, rel, ?_⟩
  unfold sPar at q
  cases e : sA ρ with
  | stuck => rw [e] at q; exact q.elim
  | exc x ρ' => rw [e] at q; exact q
  | ok ds ρ1 =>
    rw [e, R.bind_ok] at q
    intro vs H1 F1 le1 rel1 r
    match ds, r, q with
    | [d1, d2], .cons (v := v1) r1 (.cons (v := v2) r2 .nil), q =>
      refine ⟨v1, v2, rfl, ?_⟩
      cases e1 : gSet i d1 ρ1 with
      | stuck => dsimp only at q; rw [e1] at q; exact q.elim
      | exc x ρ'' => unfold gSet at e1; split at e1 <;> cases e1
      | ok u ρ2 =>
        dsimp only at q
        rw [e1, R.bind_ok] at q
        obtain ⟨h1, rfl⟩ := gSet_ok e1
        cases e2 : gSet j d2 (ρ1.set i (.fro d1)) with
        | stuck => rw [e2] at q; exact q.elim
        | exc x ρ'' => unfold gSet at e2; split at e2 <;> cases e2
        | ok u ρ3 =>
          rw [e2, R.bind_ok] at q
          obtain ⟨h2, rfl⟩ := gSet_ok e2
          exact q _ H1 F1 le1 ((rel1.setFro r1 h1).setFro r2 h2)
end
end Dt

set_option Elab.async false
set_option linter.all false
set_option maxRecDepth 100000
set_option maxHeartbeats 4000000
/-! Defs with one star parameter and no other. -/
namespace Dt
open PySem PySem.Spec PyProof.Rows L2 StX
section
variable {P : Program} {w : World} {K : PySem.W.Frag} {mg : Str → Option Value} {base : Heap}
theorem upN {P : Program} {w : World} : StX.CXUp (L2N.CX P w) := fun outer s H s2 H2 E e s' un kp ho ⟨a, B, G, cls, d, ea, fl, hok, ub, na, os, ag, he⟩ => by
  have fr : ∀ {b o}, s.heap.get? b = some o → H b = none → H2 b = none := fun {b o} q n => un.free b o q n (fun z => nomatch z)
  refine ⟨a, B, G, cls, d, ea, fl, hok, { keep := ?_, slot := ?_, free := ?_, there := ?_, tups := ?_, frzs := ?_, tbls := ?_ }, na, os.trans ho, ag, he⟩
  · exact fun b o q n => ub.keep b o (kp b o q) (fr q n)
  · exact fun b o q => ub.slot b o (kp b o q)
  · exact fun b o q n => ub.free b o (kp b o q) (fr q n)
  · exact fun b o q => ub.there b o (kp b o q)
  · exact fun b xs q => ub.tups b xs (un.tups b xs q)
  · exact fun b o xs q => ub.frzs b o xs (un.frzs b o xs q)
  · exact fun b ps q => let ⟨m1, e1⟩ := un.tbls b ps q; let ⟨m2, e2⟩ := ub.tbls b _ e1; ⟨m1 ++ m2, e2.trans (by rw [Array.append_assoc])⟩
/-- what a call with the values vs promises: the body, the tuple of them at a new address -/
def spS (G : Gx) (g : List D → FR) : Sp := fun vs H Q E => vs.length ≤ sizeLine ∧ ∀ p, H p = none → spP G 1 g [V.ref p] (upd H p (.tup vs)) Q E
theorem d_defS {x qual : Str} {st : Stmt} {f : Addr} {fd : FuncData} {N : List Str} {pv : Str} {k : Nat} {body : SS} (ea : String → Addr) (F : Fun K x qual st f fd) (S : FnScope N [pv] (defScope st))
    (hb : ∀ us rest : List Value, us.length = ([] : List Str).length → bindArgs fd ⟨us ++ rest, []⟩ = (newTuple rest >>= fun t => pure (([] : List Str).zip us ++ [(pv, t)])))
    (h : ∀ (cdv : Value) (A : Around) (outer : List PySem.Env) (s : Shared) (H : Hp) (E : XK), Room k (A.deeper (envOfC qual (defScope st) s.heap.objs.size f cdv)) →
      DSs ⟨K, ⟨ea, []⟩⟩ (cxOf (L2N.CX P w) P w K mg base N qual (defScope st) f cdv A outer s H E) (wE E) (defBody st) body) : FnR P w K mg base (L2N.CX P w) (k + 1) f (spS ⟨K, ⟨ea, []⟩⟩ (runP N.length 1 body)) := by
  obtain ⟨oc, od, kV, doc, pm, an, cdv, ct, osl, rfl, lk, hcd⟩ := F.ex
  refine FnR.imp (fn_star (ps := []) (pv := pv) (sp := spP ⟨K, ⟨ea, []⟩⟩ 1 (runP N.length 1 body)) lk hcd S upN hb fun A outer s H vs Q E hr ⟨ds, F0, Rv, hl, ap, r, q⟩ => ⟨_, h cdv A outer s H E hr, ?_⟩) fun vs H Q E ⟨z, q⟩ => ⟨[], vs, rfl, rfl, z, q⟩
  have e0 : L2.start N vs = vs.map some ++ List.replicate (N.length - 1) none := by unfold L2.start; rw [hl]
  rw [e0]
  refine ⟨_, F0, Rv, {}, rel_start ap r, ?_⟩
  unfold runP at q
  cases e : body (ds.map Cell.fro ++ List.replicate (N.length - 1) Cell.no) with
  | stuck => rw [e] at q; exact q.elim
  | exc x ρ' => rw [e] at q; exact fun cls dd σ' H' F' le rel xr => q cls dd H' F' le ⟨rel.fH, rel.rH, rel.dj, rel.nt⟩ xr
  | ok fl ρ' =>
    rw [e] at q
    cases fl with
    | nx => exact fun σ' H' F' le rel => q _ H' F' le ⟨rel.fH, rel.rH, rel.dj, rel.nt⟩ .non
    | bk => exact q.elim
    | ct => exact q.elim
    | rt d => exact fun v σ' H' F' le rel rp => q v H' F' le ⟨rel.fH, rel.rH, rel.dj, rel.nt⟩ rp
/-- a def of the text with one star parameter, as it stands; and what it computes -/
structure FnS (K : PySem.W.Frag) (mg : Str → Option Value) (x : Str) (st : Stmt) (pv : Str) : Prop where
  there : ∃ f fd, Fun K x x st f fd ∧ mg x = some (.ref f) ∧ ∀ us rest : List Value, us.length = ([] : List Str).length → bindArgs fd ⟨us ++ rest, []⟩ = (newTuple rest >>= fun t => pure (([] : List Str).zip us ++ [(pv, t)]))
structure CalS (P : Program) (w : World) (K : PySem.W.Frag) (mg : Str → Option Value) (base : Heap) (x : Str) (k : Nat) (sp : Sp) : Prop where
  there : ∃ f, FnR P w K mg base (L2N.CX P w) k f sp ∧ mg x = some (.ref f) ∧ PySem.W.keepIn K (.ref f) = true
theorem CalS.mono {j k : Nat} {x : Str} {sp : Sp} (C : CalS P w K mg base x j sp) (h : j ≤ k) : CalS P w K mg base x k sp := let ⟨f, F, r⟩ := C.there; ⟨f, FnR.mono F h, r⟩
theorem cal_S {x : Str} {st : Stmt} {N : List Str} {pv : Str} {k : Nat} {body : SS} (ea : String → Addr) (F : FnS K mg x st pv) (S : FnScope N [pv] (defScope st))
    (h : ∀ (f : Addr) (cdv : Value) (A : Around) (outer : List PySem.Env) (s : Shared) (H : Hp) (E : XK), Room k (A.deeper (envOfC x (defScope st) s.heap.objs.size f cdv)) →
      DSs ⟨K, ⟨ea, []⟩⟩ (cxOf (L2N.CX P w) P w K mg base N x (defScope st) f cdv A outer s H E) (wE E) (defBody st) body) : CalS P w K mg base x (k + 1) (spS ⟨K, ⟨ea, []⟩⟩ (runP N.length 1 body)) := by
  obtain ⟨f, fd, F, hm, hb⟩ := F.there
  exact ⟨f, d_defS ea F S hb (h f), hm, F.kp⟩
end
section
variable {ex : Exx} {X : Cx} {W : WX} {e : Expr} {es : List Expr} {pos p : Pos} {x : Str} {sA : SA} {k : Nat} {g : List D → FR}
theorem pe_callFR {CX : CXT} {f : Addr} {sp : Sp} {E : L2.St → XK} {t : TA} (F : FnR X.prog X.w X.K X.mg X.base CX k f sp) (hr : Room k X.A) (hg : Gl X x) (hm : X.mg x = some (.ref f)) (hk : PySem.W.keepIn X.K (.ref f) = true) (hx : ∀ σ, PassesAt CX X σ (E σ))
    (ha : PA X (e :: es) t) (hdb : (x == ("__debug__" : Str)) = false := by decide) (he : starEach (e :: es) X.env = (false, eval e X.env) :: starEach es X.env := by rfl) (hpl : (backTo pos (starEach es X.env)).any (·.1) = false := by rfl) : PE X (.Call (.Name x p) (e :: es) [] pos) (tCallS sp E t) := by
  constructor; intro pins s σ H Q I h
  refine wpAny_Call_Name_kw (ld_glob I hg hm (PySem.W.callWith_K (h₀ := X.base) I.ok.mod.kin hk (thn (ha.run pos pins s σ H _ I h) fun us s1 ⟨vs, H1, I1, r, q⟩ => ⟨I1.kIn, wpAny_call (codeAny_mono (F X.A X.stack s1 H1 us vs Q (E σ) hr I1.env0 r q) fun r s' hq => ?_)⟩) he hpl) hdb)
  cases r with
  | error e => exact hx σ pins H1 s1 e s' I1 hq
  | ok fl =>
    cases fl with
    | ret u => exact I1.after hq
    | _ => exact False.elim hq
def sCallS (g : List D → FR) (s : SA) : SE := fun ρ => (s ρ).bind fun ds ρ' => if ds.length ≤ sizeLine then endP (g [.arg ds]) ρ' else .stuck
@[simp] theorem ev_callS (g : List D → FR) (s : SA) (ρ : Env) : sCallS g s ρ = (s ρ).bind fun ds ρ' => if ds.length ≤ sizeLine then endP (g [.arg ds]) ρ' else .stuck := rfl
theorem d_callS (hu : At X W) (C : CalS X.prog X.w X.K X.mg X.base x k (spS (GK X ex) g)) (hr : Room k X.A) (hg : Gl X x)
    (ha : DA (GK X ex) X W (e :: es) sA) (hdb : (x == ("__debug__" : Str)) = false := by decide) (he : starEach (e :: es) X.env = (false, eval e X.env) :: starEach es X.env := by rfl) (hpl : (backTo pos (starEach es X.env)).any (·.1) = false := by rfl) :
    DE (GK X ex) X W (.Call (.Name x p) (e :: es) [] pos) (sCallS g sA) :=
  let ⟨f, F, hm, hk⟩ := C.there
  wkE (pe_callFR (E := WE W) F hr hg hm hk (fun σ => L2N.passAt hu.tk σ) ha hdb he hpl) fun σ H Q ⟨ρ, F, Rv, io, rel, q⟩ => by
    refine ⟨ρ, F, Rv, io, rel, ?_⟩
    unfold sCallS at q
    cases e : sA ρ with
    | stuck => rw [e] at q; exact q.elim
    | exc x ρ' => rw [e] at q; exact q
    | ok ds ρ' =>
      rw [e, R.bind_ok] at q
      intro vs H1 F1 le rel1 r
      by_cases hn : ds.length ≤ sizeLine
      · rw [if_pos hn] at q
        refine ⟨by rw [r.length]; exact hn, fun a ha => ?_⟩
        have leN : FLe F1 (upd F1 a (.tup vs)) := FLe.upd _ (rel1.fH.noneOf ha)
        have relN := rel1.after (New.obj rel1.fH ha (.tup vs))
        refine ⟨[.arg ds], upd F1 a (.tup vs), restOf (upd F1 a (.tup vs)) (upd H1 a (.tup vs)) none, rfl, restOf_apart relN none, .cons (.arg (.inl (.inl upd_same)) (r.mono leN)) .nil, ?_⟩
        cases e2 : g [.arg ds] with
        | stuck => rw [e2] at q; exact q.elim
        | ok d o => rw [e2] at q; exact fun v H' F' le2 ap rp => q v H' F' ((le.trans leN).trans le2) (relN.behind le2 ap) rp
        | exc x => rw [e2] at q; exact fun cls dd H' F' le2 ap xr => q cls dd σ H' F' ((le.trans leN).trans le2) (relN.behind le2 ap) xr
      · rw [if_neg hn] at q; exact q.elim
end
end Dt

set_option Elab.async false
set_option linter.all false
set_option maxRecDepth 100000
set_option maxHeartbeats 4000000
/-! A dict comprehension with two fors: each clause by one rule, its body told as what it does to the dict so far. -/
namespace Dt
open PySem PySem.Spec PyProof.Rows L2

abbrev Acc := List Key × List D
/-- one clause: the items, one after another; bs: what stands behind it -/
def clGo (vs : List Nat) (g : SG) (bs : Acc → Env → R Acc) : List D → Acc → Env → R Acc
  | [], acc, ρ => .ok acc ρ
  | d :: ds, acc, ρ => (g d ρ).bind fun _ ρ1 => (bs acc ρ1).bind fun acc' ρ2 => if plainAt ρ2 vs = true then clGo vs g bs ds acc' (wipeE ρ2 vs) else .stuck
/-- the last clause's body: k: v is put -/
def putS (sk s : SE) : Acc → Env → R Acc := fun acc ρ => (sk ρ).bind fun kd ρ1 => (s ρ1).bind fun z ρ2 => match keyOf kd with
  | none => .stuck
  | some k => if acc.1.length < sizeLine then .ok (dPut acc.1 acc.2 k z) ρ2 else .stuck
/-- the first one's body: the second clause -/
def innS (vs1 : List Nat) (it1 : SA) (g1 : SG) (bs : Acc → Env → R Acc) : Acc → Env → R Acc := fun acc ρ => (it1 ρ).bind fun ds ρ1 => if plainAt ρ1 vs1 = true then clGo vs1 g1 bs ds acc (wipeE ρ1 vs1) else .stuck
def sDComp2 (vs vs1 : List Nat) (it : SA) (g : SG) (it1 : SA) (g1 : SG) (sk s : SE) : SE := fun ρ => (it ρ).bind fun ds ρ1 =>
  if plainAt ρ1 vs = true then (noX (clGo vs g (innS vs1 it1 g1 (putS sk s)) ds ([], []) (wipeE ρ1 vs))).bind fun zs ρ2 => .ok (.dct zs.1 zs.2) (backE ρ1 ρ2 vs) else .stuck

theorem Keeps.refl {vs : List Nat} {σ : L2.St} : Keeps vs σ σ := ⟨rfl, fun _ _ => rfl⟩
theorem thnX {X : Cx} (hx : X.xe = fun _ _ => False) {α : Type} {t : Sem α} {Q Q' : α → Shared → Prop} {M : Model} {A : Around} {E : Value → Shared → Prop} {s : Shared} (h : wpAny M A t Q X.xe s) (hQ : ∀ a s, Q a s → Q' a s) : wpAny M A t Q' E s := by
  rw [hx] at h
  exact thnF h hQ

/-- a body (what comes behind it is k): from the dict at Dl as it stands to the dict behind it; the slots vs are its own -/
structure BodyOk (G : Gx) (X : Cx) (Dl : Addr) (vs : List Nat) (body : Sem Fin → Sem Fin) (bs : Acc → Env → R Acc) : Prop where
  run : ∀ (pins : List (Addr × Obj)) (σ : L2.St) (H : Hp) (s : Shared) (ρ : Env) (F Rv : Hp) (io : Io G.ex.tabs) (kvs : List (Key × V)) (dn : List D) (zs : Acc) (ρ' : Env), Inv X pins σ H s → Rel G.K io (upd Rv Dl (.dK kvs)) ρ F σ H →
    Rps G.K F (kvs.map (·.2)) dn → bs (kvs.map (·.1), dn) ρ = .ok zs ρ' → ∀ (k : Sem Fin) (Q : Fin → Shared → Prop) (E : Value → Shared → Prop),
    (∀ s' σ' H' kvs' F', Inv X pins σ' H' s' → FLe F F' → Keeps vs σ σ' → Rel G.K io (upd Rv Dl (.dK kvs')) ρ' F' σ' H' → kvs'.map (·.1) = zs.1 → Rps G.K F' (kvs'.map (·.2)) zs.2 → wpAny (model X.prog X.w) X.A k Q E s') →
    wpAny (model X.prog X.w) X.A (body k) Q E s
section
variable {G : Gx} {X : Cx} {Dl : Addr} {vs : List Nat}
theorem body_put {kx vx : Expr} {sk s : SE} {place : Pos} (hx : X.xe = fun _ _ => False) (hk : DE G X W0 kx sk) (he : DE G X W0 vx s) :
    BodyOk G X Dl vs (fun k => (do let kv ← eval kx X.env; let vv ← holding [kv] (eval vx X.env); standAt place; holding [kv, vv] (dictSet Dl kv vv)) >>= fun _ => k) (putS sk s) := by
  refine ⟨fun pins σ H s0 ρ F Rv io kvs dn zs ρ' I rel rps e k Q E q => wpAny_bind ?_⟩
  unfold putS at e
  cases e1 : sk ρ with
  | stuck => rw [e1] at e; cases e
  | exc x ρ1 => rw [e1] at e; cases e
  | ok kd ρ1 =>
    rw [e1, R.bind_ok] at e
    cases e2 : s ρ1 with
    | stuck => rw [e2] at e; cases e
    | exc x ρ2 => rw [e2] at e; cases e
    | ok z ρ2 =>
      rw [e2, R.bind_ok] at e
      cases e3 : keyOf kd with
      | none => rw [e3] at e; cases e
      | some key =>
        rw [e3] at e
        have e : (if kvs.length < sizeLine then R.ok (dPut (kvs.map (·.1)) dn key z) ρ2 else .stuck) = R.ok zs ρ' := by simpa using e
        by_cases hz : kvs.length < sizeLine
        · rw [if_pos hz] at e; cases e
          have r1 := hk.run pins s0 σ H (fun x H1 => ∃ F1, FLe F F1 ∧ Rel G.K io (upd Rv Dl (.dK kvs)) ρ1 F1 σ H1 ∧ Rp G.K F1 x kd) I ⟨ρ, F, _, io, rel, by rw [e1]; exact fun v H' F' a b c => ⟨F', a, b, c⟩⟩
          refine wpAny_bind (thnX hx r1 fun kv s1 ⟨x, H1, I1, rx, F1, le1, rel1, rp1⟩ => ?_)
          have r2 := he.run pins s1 σ H1 (fun x H2 => ∃ F2, FLe F1 F2 ∧ Rel G.K io (upd Rv Dl (.dK kvs)) ρ' F2 σ H2 ∧ Rp G.K F2 x z) I1 ⟨ρ1, F1, _, io, rel1, by rw [e2]; exact fun v H' F' a b c => ⟨F', a, b, c⟩⟩
          refine wpAny_bind (wpAny_holding (thnX hx r2 fun vv s2 ⟨y, H2, I2, ry, F2, le2, rel2, rp2⟩ => wpAny_bind (wpAny_standAt (wpAny_holding ?_))))
          have ek := keyOf_vw (H := H1) (.inl rp1) e3
          subst ek
          obtain ⟨k1, k2⟩ := dPut_put (k := key) rp2 (rps.mono (le1.trans le2))
          exact d_dictSet I2 (rel2.rH Dl _ upd_same) hz rx ry fun s3 I3 => q s3 σ _ (putK kvs key y) F2 I3 (le1.trans le2) Keeps.refl rel2.resPut k1 k2
        · rw [if_neg hz] at e; cases e
/-- a clause's loop -/
theorem clause_loop (hc : X.calm = true) (hx : X.xe = fun _ _ => False) {kx vx : Expr} {gens : List Comprehension} {scope : Scope} {pos : Pos} {depth : Nat} {tg : Expr} {it : Addr} {body : Sem Fin → Sem Fin} {spos : Pos} {js : List Nat} {g : SG} {bs : Acc → Env → R Acc}
    (ht : compTurn (.DictComp kx vx gens scope pos) depth (.ref it) (.ref Dl) X.env = (do
      standAt spos
      match ← pyNext (.ref it) with
      | none => pure (.done .next)
      | some v => do
        letOwnedTupleGo tg (.ref it) v
        assign tg X.env v
        body (again (.compLoop (.DictComp kx vx gens scope pos) depth (.ref it) (.ref Dl) X.env))))
    (pg : DG G X W0 js tg g) (hjs : ∀ j ∈ js, j ∈ vs) (hb : BodyOk G X Dl vs body bs) {fp : List Addr} {tn : Nat → Heap → Prop} {J : It} (T : Turn X.prog X.w X.K tg J fp it tn) {pins : List (Addr × Obj)} {σ : L2.St} (hσ : wipe σ vs = σ)
    (hf : ∀ b ∈ fp, ∀ H : Hp, H b = none → FpOk X pins H b) {io : Io G.ex.tabs} {Rv F0 : Hp} {ds : List D} {zs : Acc} {ρe : Env} (J1 : IterOk G.K J F0 ds) {R' : Result → Shared → Prop}
    (hR : ∀ s' H' kvs' F', Inv X pins σ H' s' → (∀ b ∈ fp, H' b = none) → FLe F0 F' → Rel G.K io (upd Rv Dl (.dK kvs')) ρe F' σ H' → kvs'.map (·.1) = zs.1 → Rps G.K F' (kvs'.map (·.2)) zs.2 → R' (.ok .next) s')
    {s : Shared} {H : Hp} {ρ : Env} {F : Hp} {kvs : List (Key × V)} {dn : List D} (I0 : Inv X pins σ H s) (st0 : tn 0 s.heap) (n0 : ∀ b ∈ fp, H b = none) (le0 : FLe F0 F) (rel0 : Rel G.K io (upd Rv Dl (.dK kvs)) ρ F σ H) (r0 : Rps G.K F (kvs.map (·.2)) dn)
    (go0 : clGo vs g bs ds (kvs.map (·.1), dn) ρ = .ok zs ρe) : codeAny (model X.prog X.w) X.A (.compLoop (.DictComp kx vx gens scope pos) depth (.ref it) (.ref Dl) X.env) R' s := by
  refine codeAny_loop rfl (fun n s' => ∃ (i : Nat) (H' : Hp) (ρi : Env) (Fi : Hp) (kvs : List (Key × V)) (dn : List D), n = ds.length - i ∧ i ≤ ds.length ∧ Inv X pins σ H' s' ∧ tn i s'.heap ∧ (∀ b ∈ fp, H' b = none) ∧ FLe F0 Fi ∧
    Rel G.K io (upd Rv Dl (.dK kvs)) ρi Fi σ H' ∧ Rps G.K Fi (kvs.map (·.2)) dn ∧ clGo vs g bs (ds.drop i) (kvs.map (·.1), dn) ρi = .ok zs ρe) (fun n s1 hI => ?_) ds.length ⟨0, H, ρ, F, kvs, dn, rfl, Nat.zero_le _, I0, st0, n0, le0, rel0, r0, go0⟩
  obtain ⟨i, H1, ρi, Fi, kvs, dn, rfl, hi, I1, st1, n1, le1, rel1, r1, go1⟩ := hI
  show wpAny _ X.A ((compTurn (.DictComp kx vx gens scope pos) depth (.ref it) (.ref Dl) X.env).onRaise fun x => do noteFrame x X.env; theTreesLotGoes x) _ _ s1
  refine wpAny_noted ?_
  rw [ht]
  refine wpAny_bind (wpAny_standAt (wpAny_bind ?_))
  by_cases hlt : i < ds.length
  · refine thnF (T.item X rfl rfl rfl hc i pins s1 σ H1 (fun _ _ => False) I1 (fun b hb => hf b hb H1 (n1 b hb)) st1 (J1.go i Fi H1 le1 rel1.fH hlt)) fun r s2 ⟨u, hr, h2⟩ => ?_
    subst hr
    refine wpAny_bind (thnF h2 fun _ s3 ⟨x, H3, I3, rx, y, st3, n3⟩ => ?_)
    obtain ⟨d, hd, hdr⟩ := drop_at hlt
    rw [hdr] at go1
    unfold clGo at go1
    obtain ⟨F3, nw, rp⟩ := J1.yld i Fi H1 H3 x d le1 rel1.fH hd y
    have rel3 := rel1.after nw
    cases e3 : g d ρi with
    | stuck => rw [e3] at go1; cases go1
    | exc x ρ' => rw [e3] at go1; cases go1
    | ok _ ρ4 =>
      rw [e3, R.bind_ok] at go1
      have I3' := I3.pinned (fun b hb => hf b hb H3 (n3 b hb)) (T.obj _ _ st3)
      have r4 := pg.run (pins ++ pinsAt fp s3.heap) s3 σ H3 x u (fun σ4 H4 => ∃ F4, FLe F3 F4 ∧ Rel G.K io (upd Rv Dl (.dK kvs)) ρ4 F4 σ4 H4 ∧ Keeps js σ σ4) I3' rx ⟨d, ρi, F3, _, io, rel3, rp, by rw [e3]; exact fun σ' H' F' a b c => ⟨F', a, b, c⟩⟩
      refine wpAny_bind (thnX hx r4 fun _ s4 ⟨σ4, H4, I4, F4, le4, rel4, kp4⟩ => ?_)
      cases e5 : bs (kvs.map (·.1), dn) ρ4 with
      | stuck => rw [e5] at go1; cases go1
      | exc x ρ' => rw [e5] at go1; cases go1
      | ok acc ρ5 =>
        rw [e5, R.bind_ok] at go1
        refine hb.run _ σ4 H4 s4 ρ4 F4 Rv io kvs dn acc ρ5 I4 rel4 (r1.mono (nw.f.trans le4)) e5 _ _ _ fun s5 σ5 H5 kvs5 F5 I5 le5 kp5 rel5 k5 r5 => ?_
        by_cases hp : plainAt ρ5 vs = true
        · rw [if_pos hp] at go1
          have out : ∀ j, j ∉ vs → σ5[j]? = (wipe σ vs)[j]? := fun j hj => by rw [hσ, kp5.2 j hj, kp4.2 j fun z => hj (hjs j z)]
          have hw : wipe σ5 vs = σ := (wipe_same (kp5.1.trans kp4.1) out).trans hσ
          have rel6 := rel5.wiped hp
          rw [hw] at rel6
          have pin : ∀ b ∈ fp, ∀ o, s3.heap.get? b = some o → s5.heap.get? b = some o ∧ H5 b = none := fun b hb o eo => let z := I5.pin (b, o) (List.mem_append_right _ (List.mem_append_right _ (mem_pinsAt hb eo))); ⟨z.1, z.2.1⟩
          exact wpAny_pure ⟨rfl, ds.length - (i + 1), by omega, i + 1, H5, wipeE ρ5 vs, F5, kvs5, acc.2, rfl, hlt, I5.unpinned.weak (by rw [← hw, wipe_length]) (fun j v ej => by rw [← hw] at ej; exact (wipe_some ej).1),
            T.keep _ _ _ st3 fun b hb o eo => (pin b hb o eo).1, fun b hb => by obtain ⟨o, eo, _⟩ := T.obj _ _ st3 b hb; exact (pin b hb o eo).2, ((le1.trans nw.f).trans le4).trans le5, rel6, r5, by rw [k5]; exact go1⟩
        · rw [if_neg hp] at go1; cases go1
  · have hi2 : i = ds.length := by omega
    subst hi2
    rw [List.drop_eq_nil_of_le (Nat.le_refl _)] at go1
    unfold clGo at go1
    cases go1
    refine thnF (T.done X rfl rfl rfl hc _ pins s1 σ H1 (fun _ _ => False) I1 (fun b hb => hf b hb H1 (n1 b hb)) st1 (J1.stop Fi H1 le1 rel1.fH)) fun r s2 ⟨hr, I2⟩ => ?_
    subst hr
    exact wpAny_pure (hR s2 H1 kvs Fi I2 n1 le1 rel1 rfl r1)
/-- a clause behind the first one starts -/
theorem start_any {prog : Program} {w : World} {A : Around} {R' : Result → Shared → Prop} {s : Shared} {kx vx : Expr} {gens : List Comprehension} {scope : Scope} {pos : Pos} {n : Nat} {t i : Expr} {ifs : List Expr} {it acc : Value} {env : PySem.Env} (hn : gens[n]? = some ⟨t, i, ifs, 0⟩)
    (h0 : codeAny (model prog w) A (.compLoop (.DictComp kx vx gens scope pos) n it acc env) R' s)
    (h : ∀ E, wpAny (model prog w) A (pyIter it) (fun j s' => codeAny (model prog w) A (.compLoop (.DictComp kx vx gens scope pos) n j acc env) R' s') E s) : codeAny (model prog w) A (.compStart (.DictComp kx vx gens scope pos) n it acc env) R' s := by
  refine codeAny_of_tree ?_
  show wpAny _ _ ((compStart (.DictComp kx vx gens scope pos) n it acc env).onRaise (fun x => do noteFrame x env; standAt theWindowsPlace)) _ _ s
  refine wpAny_notedAt ?_
  unfold compStart
  have hn : (clausesOf (.DictComp kx vx gens scope pos))[n]? = some ⟨t, i, ifs, 0⟩ := hn
  rw [hn]
  refine wpAny_bind (wpAny_askSetting (wpAny_ite ?_))
  split
  · first | exact wpAny_bind (wpAny_pure (wpAny_pure ⟨rfl, h0⟩)) | exact wpAny_pure ⟨rfl, h0⟩
  · refine wpAny_bind (wpAny_rule ?_)
    exact wpAny_bind (wpAny_standAt (wpAny_bind (thn (h _) fun j s' hj => wpAny_pure ⟨rfl, hj⟩)))
theorem wipe_twice {σ : L2.St} {vs : List Nat} : wipe (wipe σ vs) vs = wipe σ vs := wipe_same (wipe_length σ vs) fun _ _ => rfl
theorem body_inner {kx vx tg iter tg1 iter1 : Expr} {scope : Scope} {pos : Pos} {vs1 js1 : List Nat} {it1 : SA} {g1 : SG} {bs : Acc → Env → R Acc} {body1 : Sem Fin → Sem Fin} (hc : X.calm = true) (hx : X.xe = fun _ _ => False)
    (hi1 : DI G X W0 tg1 iter1 it1) (pg1 : DG G X W0 js1 tg1 g1) (hjs1 : ∀ j ∈ js1, j ∈ vs1) (hv : ∀ j ∈ vs1, j ∈ vs) (hs1 : ∀ x, foldedSetIterable iter1 X.env x = pure x) (hb : BodyOk G X Dl vs1 body1 bs)
    (ht : ∀ I : Addr, compTurn (.DictComp kx vx [⟨tg, iter, [], 0⟩, ⟨tg1, iter1, [], 0⟩] scope pos) 1 (.ref I) (.ref Dl) X.env = (do
      standAt iter1.pos
      match ← pyNext (.ref I) with
      | none => pure (.done .next)
      | some v => do
        letOwnedTupleGo tg1 (.ref I) v
        assign tg1 X.env v
        body1 (again (.compLoop (.DictComp kx vx [⟨tg, iter, [], 0⟩, ⟨tg1, iter1, [], 0⟩] scope pos) 1 (.ref I) (.ref Dl) X.env)))) :
    BodyOk G X Dl vs (fun k => do
      let x ← eval iter1 X.env
      standAt iter1.pos
      let x ← foldedSetIterable iter1 X.env x
      let _ ← runOwn (.compStart (.DictComp kx vx [⟨tg, iter, [], 0⟩, ⟨tg1, iter1, [], 0⟩] scope pos) 1 (← holding [x] (pyIter x)) (.ref Dl) X.env) X.env
      k) (innS vs1 it1 g1 bs) := by
  refine ⟨fun pins σ H s0 ρ F Rv io kvs dn zs ρ' I rel rps e k Q E q => ?_⟩
  unfold innS at e
  cases e1 : it1 ρ with
  | stuck => rw [e1] at e; cases e
  | exc x ρ1 => rw [e1] at e; cases e
  | ok ds ρ1 =>
    rw [e1, R.bind_ok] at e
    by_cases hp : plainAt ρ1 vs1 = true
    case neg => rw [if_neg hp] at e; cases e
    rw [if_pos hp] at e
    have r1 := hi1.run pins s0 σ H (fun J H1 => ∃ F1, FLe F F1 ∧ Rel G.K io (upd Rv Dl (.dK kvs)) ρ1 F1 σ H1 ∧ IterOk G.K J F1 ds) I ⟨ρ, F, _, io, rel, by rw [e1]; exact fun J H' F' a b c => ⟨F', a, b, c⟩⟩
    refine wpAny_bind (thnX hx r1 fun v s1 h1 => ?_)
    refine wpAny_bind (wpAny_standAt (wpAny_bind (wpAny_of_eq (hs1 v) (wpAny_bind (wpAny_holding (thnX hx h1 fun itv s2 h2 => ?_))))))
    obtain ⟨I1, fp, tn, J, H2, e2, I2, T, st2, f2, F2, le2, rel2, J1⟩ := h2
    subst e2
    refine wpAny_bind (wpAny_runOwn ?_)
    rw [Around.mark_none]
    have loop : codeAny (model X.prog X.w) X.A (.compLoop (.DictComp kx vx [⟨tg, iter, [], 0⟩, ⟨tg1, iter1, [], 0⟩] scope pos) 1 (.ref I1) (.ref Dl) X.env) (fun r s' => match r with | .ok _ => wpAny (model X.prog X.w) X.A k Q E s' | .error _ => False) s2 :=
      clause_loop hc hx (ht I1) pg1 hjs1 hb T wipe_twice (fun b hb H hn => ⟨hn, (f2 b hb).2⟩) J1
        (fun s' H' kvs' F' I' n' le' rel' k' r' => q s' (wipe σ vs1) H' kvs' F' I' (le2.trans le') ⟨wipe_length σ vs1, fun j hj => by rw [wipe_get, if_neg fun z => hj (hv j z)]⟩ rel' k' r')
        (I2.weak (wipe_length σ vs1) fun j v ej => (wipe_some ej).1) st2 (fun b hb => (f2 b hb).1) (FLe.refl _) (rel2.wiped hp) (rps.mono le2) e
    refine codeAny_mono (start_any (t := tg1) (i := iter1) (ifs := []) rfl loop fun E => T.self X.A 0 _ _ _ st2 loop) fun r s' hr => ?_
    cases r with
    | ok f => exact hr
    | error e => exact hr.elim
end
theorem d_dcomp2F {ex : Exx} {X : Cx} {W : WX} {kx vx tg iter tg1 iter1 : Expr} {scope : Scope} {own : List (Str × Nat)} {pos : Pos} {vs1 js js1 : List Nat} {it it1 : SA} {g g1 : SG} {sk s : SE} (hu : At X W) (hi : DI (GK X ex) X W tg iter it) (ok : BlkOk X.N X.env.scope scope own)
    (hg : ∀ (s : Shared) (H : Hp) (C : Addr) (cl : List (Str × Addr)) (fp : List Addr), DG (GK X ex) (X.blk s H scope (compEnvC scope cl C X.env) fp) W0 js tg g)
    (hi1 : ∀ (s : Shared) (H : Hp) (C : Addr) (cl : List (Str × Addr)) (fp : List Addr), DI (GK X ex) (X.blk s H scope (compEnvC scope cl C X.env) fp) W0 tg1 iter1 it1)
    (hg1 : ∀ (s : Shared) (H : Hp) (C : Addr) (cl : List (Str × Addr)) (fp : List Addr), DG (GK X ex) (X.blk s H scope (compEnvC scope cl C X.env) fp) W0 js1 tg1 g1)
    (hk : ∀ (s' : Shared) (H : Hp) (C : Addr) (cl : List (Str × Addr)) (fp : List Addr), DE (GK X ex) (X.blk s' H scope (compEnvC scope cl C X.env) fp) W0 kx sk)
    (he : ∀ (s' : Shared) (H : Hp) (C : Addr) (cl : List (Str × Addr)) (fp : List Addr), DE (GK X ex) (X.blk s' H scope (compEnvC scope cl C X.env) fp) W0 vx s)
    (hjs : js.all (fun j => (own.map (·.2)).contains j) = true) (hjs1 : js1.all (fun j => vs1.contains j) = true) (hv : vs1.all (fun j => (own.map (·.2)).contains j) = true)
    (hs : ∀ x, foldedSetIterable iter X.env x = pure x := by intro _; rfl) (hs1 : ∀ env x, foldedSetIterable iter1 env x = pure x := by intro _ _; rfl) :
    DF (GK X ex) X W (.DictComp kx vx [⟨tg, iter, [], 0⟩, ⟨tg1, iter1, [], 0⟩] scope pos) (sDComp2 (own.map (·.2)) vs1 it g it1 g1 sk s) := by
  refine ⟨fun pins s0 σ H Q I h => ?_⟩
  rw [arm_eval_DictComp]
  have mem : ∀ {a b : List Nat}, a.all (fun j => b.contains j) = true → ∀ j ∈ a, j ∈ b := fun h j hj => by have w := List.all_eq_true.mp h j hj; simpa using w
  obtain ⟨ρ, F, Rv, io, rel, q⟩ := h
  have hI : tI (GK X ex) W it σ H fun J H1 => ∃ F1 ds ρ1 zs ρe, FLe F F1 ∧ Rel X.K io Rv ρ1 F1 σ H1 ∧ IterOk X.K J F1 ds ∧ plainAt ρ1 (own.map (·.2)) = true ∧ clGo (own.map (·.2)) g (innS vs1 it1 g1 (putS sk s)) ds ([], []) (wipeE ρ1 (own.map (·.2))) = .ok zs ρe ∧
      ∀ p H' F', FLe F F' → Rel X.K io Rv (backE ρ1 ρe (own.map (·.2))) F' σ H' → OwnAt X.K F' Rv H' p (.dct zs.1 zs.2) → Loose (backE ρ1 ρe (own.map (·.2))) σ p → Q (.ref p) H' := by
    refine ⟨ρ, F, Rv, io, rel, ?_⟩
    unfold sDComp2 at q
    cases e : it ρ with
    | stuck => rw [e] at q; exact q.elim
    | exc x ρ' => rw [e] at q; exact q
    | ok ds ρ1 =>
      rw [e, R.bind_ok] at q
      by_cases hp : plainAt ρ1 (own.map (·.2)) = true
      case neg => rw [if_neg hp] at q; exact q.elim
      rw [if_pos hp] at q
      cases e2 : clGo (own.map (·.2)) g (innS vs1 it1 g1 (putS sk s)) ds ([], []) (wipeE ρ1 (own.map (·.2))) with
      | stuck => rw [e2] at q; exact q.elim
      | exc x ρ' => rw [e2] at q; exact q.elim
      | ok zs ρe => rw [e2] at q; exact fun J H' F' a b c => ⟨F', ds, ρ1, zs, ρe, a, b, c, hp, e2, q⟩
  have hfree : ∀ y ∈ scope.names, y.2 = .free → ∃ c, X.env.cells.lookup y.1 = some c := fun y hy e => I.ok.has _ ((ok.free y hy e).elim .inl .inr)
  refine wpAny_comprehension_free (use := none) rfl hs (closure_ok hfree) ok.kind (fun y hy e => by rw [ok.uniq y hy, e]) (thn (hi.run pins s0 σ H _ I hI) fun xv s1 h1 => thn h1 fun itv s2 h2 => ?_)
  obtain ⟨I0, fp, tn, J, H2, e0, I2, T, st2, f2, F1, ds, ρ1, zs, ρe, le1, rel1, J1, hp, hgo, qq⟩ := h2
  subst e0
  refine wpAny_newObj_type (newEnv_comp ?_)
  generalize hD : s2.heap.objs.size = Dl
  have nD : H2 Dl = none := I2.hok.fresh (Nat.le_of_eq hD)
  have nR : Rv Dl = none := rel1.rH.noneOf nD
  generalize h3 : ({ s2 with heap := s2.heap.push { cls := .type "dict", data := .dict #[] } } : Shared) = s3
  have eh : s3.heap = s2.heap.push { cls := .type "dict", data := .dict #[] } := by rw [← h3]
  have I3 : Inv X pins σ (upd H2 Dl (.dK [])) s3 := by
    rw [← h3]; refine I2.laid (t' := s2.toks) (fun b o e => Heap.get?_push_of_some _ e) (Nat.le_of_eq hD) ?_
    rw [← hD]; exact dk_empty s2.heap I2.big
  have lt : ∀ b ∈ fp, b < s2.heap.objs.size := fun b hb => let ⟨_, e, _⟩ := T.obj _ _ st2 b hb; Heap.lt_size e
  have f3 : ∀ b ∈ fp, FpOk X pins (upd H2 Dl (.dK [])) b ∧ b < s3.heap.objs.size := fun b hb =>
    ⟨⟨by rw [upd_ne (by rw [← hD]; exact Nat.ne_of_lt (lt b hb))]; exact (f2 b hb).1, (f2 b hb).2⟩, by rw [eh, Heap.size_push]; exact Nat.lt_succ_of_lt (lt b hb)⟩
  have I4 := block_start I3 ok hu.nd f3
  have st3 : tn 0 s3.heap := T.keep _ _ _ st2 fun b _ o e => by rw [eh]; exact Heap.get?_push_of_some _ e
  have relS := (rel1.wiped hp).resAdd nD (.dK [])
  have pg := hg s3 (upd H2 Dl (.dK [])) s3.heap.objs.size (cellsFrom (s3.heap.objs.size + 1) scope.names (cloFrom X.env.cells scope.names [])) fp
  have pi1 := hi1 s3 (upd H2 Dl (.dK [])) s3.heap.objs.size (cellsFrom (s3.heap.objs.size + 1) scope.names (cloFrom X.env.cells scope.names [])) fp
  have pg1 := hg1 s3 (upd H2 Dl (.dK [])) s3.heap.objs.size (cellsFrom (s3.heap.objs.size + 1) scope.names (cloFrom X.env.cells scope.names [])) fp
  have pk := hk s3 (upd H2 Dl (.dK [])) s3.heap.objs.size (cellsFrom (s3.heap.objs.size + 1) scope.names (cloFrom X.env.cells scope.names [])) fp
  have pv := he s3 (upd H2 Dl (.dK [])) s3.heap.objs.size (cellsFrom (s3.heap.objs.size + 1) scope.names (cloFrom X.env.cells scope.names [])) fp
  show codeAny _ _ (.compStart (.DictComp kx vx [⟨tg, iter, [], 0⟩, ⟨tg1, iter1, [], 0⟩] scope pos) 0 (.ref I0) (.ref Dl) (compEnvC scope (cellsFrom (s3.heap.objs.size + 1) scope.names (cloFrom X.env.cells scope.names [])) s3.heap.objs.size X.env)) (compPost (model X.prog X.w) X.A X.xe none (EP X pins σ Q) (.ref Dl) s3.heap.objs.size) { s3 with heap := pushCells (s3.heap.push { cls := .type "dict", data := .dict #[] }) scope.names }
  generalize hce : compEnvC scope (cellsFrom (s3.heap.objs.size + 1) scope.names (cloFrom X.env.cells scope.names [])) s3.heap.objs.size X.env = ce at I4 pg pi1 pg1 pk pv ⊢
  have cL : ce.locals = s3.heap.objs.size := by subst hce; rfl
  generalize hH3 : upd H2 Dl (.dK []) = H3 at I3 I4 pg pi1 pg1 pk pv f3 relS
  generalize hs4 : ({ s3 with heap := pushCells (s3.heap.push { cls := .type "dict", data := .dict #[] }) scope.names } : Shared) = s4 at I4 ⊢
  have st4 : tn 0 s4.heap := T.keep _ _ _ st3 fun b _ o e => by rw [← hs4]; exact pushCells_keeps _ _ _ _ (Heap.get?_push_of_some _ e)
  have b1 : BodyOk (GK X ex) (X.blk s3 H3 scope ce fp) Dl vs1 _ (putS sk s) := body_put (place := { kx.pos with endLine := vx.pos.endLine, endCol := vx.pos.endCol }) rfl pk pv
  have b0 : BodyOk (GK X ex) (X.blk s3 H3 scope ce fp) Dl (own.map (·.2)) _ (innS vs1 it1 g1 (putS sk s)) := body_inner (kx := kx) (vx := vx) (tg := tg) (iter := iter) (scope := scope) (pos := pos) hu.calm rfl pi1 pg1 (mem hjs1) (mem hv) (hs1 _) b1 fun _ => rfl
  have loop : codeAny (model X.prog X.w) X.A (.compLoop (.DictComp kx vx [⟨tg, iter, [], 0⟩, ⟨tg1, iter1, [], 0⟩] scope pos) 0 (.ref I0) (.ref Dl) ce) (compPost (model X.prog X.w) X.A X.xe none (EP X pins σ Q) (.ref Dl) s3.heap.objs.size) s4 := by
    refine clause_loop (X := X.blk s3 H3 scope ce fp) (G := GK X ex) (pins := []) (kvs := []) (dn := []) (spos := iter.pos) hu.calm rfl rfl pg (mem hjs) b0 T wipe_twice
      (fun b hb H hn => ⟨hn, (I4.ok.exf b hb).1, I4.ok.exfs b hb, .inl hb, fun x c e => (I4.ok.exf b hb).2 x c e, fun p hp => absurd hp (by simp)⟩) J1 (fun s' H' kvs' F' I6 n6 le6 rel6 k6 r6 => ?_) I4 st4 (fun b hb => (f3 b hb).1.1) (FLe.refl F1) relS .nil hgo
    have I7 : Inv X pins σ H' s' := I3.call' (ch := fp) I6.os I6.base I6.hok I6.bare fun b hb => let ⟨_, a, _, c, d, e⟩ := (f3 b hb).1; ⟨c, a, d, e⟩
    have nC : H' s3.heap.objs.size = none := by have z : H' ce.locals = none := I6.free; rw [cL] at z; exact z
    obtain ⟨m, hn, _⟩ := I6.loc
    have hn : s'.heap.Ns ce.locals m := hn
    rw [cL] at hn
    obtain ⟨z0, z1, z2, z3, z4, z5⟩ : FpOk X pins H' s3.heap.objs.size := I3.fpOk (Nat.le_refl _) nC
    obtain ⟨relD, n1, n2, lo⟩ := rel6.resDrop nR
    have relB := rel1.back (vs := own.map (·.2)) relD le6 hp
    have fin : Q (.ref Dl) H' := by
      refine qq Dl H' F' (le1.trans le6) relB ⟨n1, nR, _, n2, kvs', rfl, k6, r6⟩ fun i c d e1 e2 e3 => ?_
      have hlen : ρ1.length = ρe.length := by rw [rel1.len, relD.len, wipe_length]
      rw [(backE_get hlen _).2] at e1
      by_cases hi : i ∈ own.map (·.2)
      · rw [if_pos hi] at e1; rcases plain_at hp hi e1 with z | ⟨_, z⟩ <;> (subst z; cases e2)
      · rw [if_neg hi] at e1; exact lo i c d e1 e2 (by rw [wipe_get, if_neg hi]; exact e3)
    exact ⟨m, hn, fun h'' sb => ⟨.ref Dl, H', I7.turned (t' := s'.toks) (fun b o hb e => (sb.2 b hb).trans e) z0 z1 z3 z4 z5, rfl, fin⟩⟩
  exact codeAny_compStart_dict loop (T.self X.A 0 _ _ _ st4 loop)
end Dt

set_option Elab.async false
set_option linter.all false
set_option maxRecDepth 100000
set_option maxHeartbeats 4000000
/-! Defs as values and their calls, calls without arguments, zip of two lists, a dict display, a tuple assigned whose first item is a new object. -/
namespace Dt
open PySem PySem.Spec PyProof.Rows L2
/-- the def at f keeps its promise -/
structure CalA (P : Program) (w : World) (K : PySem.W.Frag) (mg : Str → Option Value) (base : Heap) (f : Addr) (k : Nat) (sp : Sp) : Prop where
  there : ∃ fd ps, FnOk P w K mg base (L2N.CX P w) k f fd ps sp ∧ PySem.W.keepIn K (.ref f) = true ∧ Binds K fd ps []
theorem Cal.at_ {P : Program} {w : World} {K : PySem.W.Frag} {mg : Str → Option Value} {base : Heap} {x : Str} {j k : Nat} {sp : Sp} (C : Cal P w K mg base x j sp) (h : j ≤ k) (t : ∃ u, mg x = some u ∧ RelV (.ref (fnA K x)) u) : CalA P w K mg base (fnA K x) k sp := by
  obtain ⟨f, fd, ps, F, hm, hk, hb⟩ := C.there
  obtain ⟨u, e, r⟩ := t
  rw [hm] at e
  cases e
  have r : Value.ref f = Value.ref (fnA K x) := r
  cases r
  exact ⟨fd, ps, F.mono h, hk, hb⟩
abbrev FT := List (Str × Nat × (List D → FR))
def lookF : FT → Str → Option (Nat × (List D → FR))
  | [], _ => none
  | t :: r, x => if t.1 = x then some t.2 else lookF r x
theorem lookF_mem {L : FT} {x : Str} {z : Nat × (List D → FR)} (h : lookF L x = some z) : (x, z) ∈ L := by
  induction L with
  | nil => cases h
  | cons t r ih =>
    unfold lookF at h
    split at h
    · rename_i e; cases h; subst e; exact .head _
    · exact .tail _ (ih h)
def CalsA (G : Gx) (P : Program) (w : World) (mg : Str → Option Value) (base : Heap) (k : Nat) (L : FT) : Prop := ∀ t ∈ L, CalA P w G.K mg base (fnA G.K t.1) k (spP G t.2.1 t.2.2)
theorem ca_nil {G : Gx} {P : Program} {w : World} {mg : Str → Option Value} {base : Heap} {k : Nat} : CalsA G P w mg base k [] := fun _ h => nomatch h
theorem ca_cons {G : Gx} {P : Program} {w : World} {mg : Str → Option Value} {base : Heap} {k n : Nat} {x : Str} {g : List D → FR} {L : FT} (h : CalA P w G.K mg base (fnA G.K x) k (spP G n g)) (r : CalsA G P w mg base k L) : CalsA G P w mg base k ((x, n, g) :: L) := fun t ht => by
  rcases List.mem_cons.mp ht with rfl | ht
  · exact h
  · exact r t ht
section
variable {ex : Exx} {X : Cx} {W : WX} {e : Expr} {es : List Expr} {x : Str} {p pos : Pos} {k : Nat} {sA : SA}
/-- a def as a value -/
theorem callP_core {n : Nat} {g : List D → FR} {σ : L2.St} {H : Hp} {Q : VK} (h : tE (GK X ex) W (sCallP n g sA) σ H Q) : tA (GK X ex) W sA σ H fun vs H1 => spP (GK X ex) n g vs H1 Q (WE W σ) := by
  obtain ⟨ρ, F, Rv, io, rel, q⟩ := h
  refine ⟨ρ, F, Rv, io, rel, ?_⟩
  unfold sCallP at q
  cases e1 : sA ρ with
  | stuck => rw [e1] at q; exact q.elim
  | exc x ρ' => rw [e1] at q; exact q
  | ok ds ρ' =>
    rw [e1, R.bind_ok] at q
    intro vs H1 F1 le rel1 r
    by_cases hn : ds.length = n
    case neg => rw [if_neg hn] at q; exact q.elim
    rw [if_pos hn] at q
    refine ⟨ds, F1, restOf F1 H1 none, r.length.trans hn, restOf_apart rel1 none, r, ?_⟩
    cases e2 : g ds with
    | stuck => rw [e2] at q; exact q.elim
    | ok d o => rw [e2] at q; exact fun v H' F' le2 ap rp => q v H' F' (le.trans le2) (rel1.behind le2 ap) rp
    | exc x => rw [e2] at q; exact fun cls dd H' F' le2 ap xr => q cls dd σ H' F' (le.trans le2) (rel1.behind le2 ap) xr
/-- f(..) with f a variable -/
def sCallV (i : Nat) (L : FT) (s : SA) : SE := fun ρ => match ρ[i]? with
  | some (.fro (.fn nm)) => match lookF L nm with
    | some z => sCallP z.1 z.2 s ρ
    | none => .stuck
  | _ => .stuck
theorem d_callV {i : Nat} {L : FT} (hu : At X W) (hN : X.N[i]? = some x) (hv : Vis X.env.scope x) (C : CalsA (GK X ex) X.prog X.w X.mg X.base k L) (hr : Room k X.A) (ha : DA (GK X ex) X W (e :: es) sA)
    (hdb : (x == ("__debug__" : Str)) = false := by decide) (hcd : (x == ("__classdict__" : Str)) = false := by decide)
    (he : starEach (e :: es) X.env = (false, eval e X.env) :: starEach es X.env := by rfl) (hpl : (backTo pos (starEach es X.env)).any (·.1) = false := by rfl) : DE (GK X ex) X W (.Call (.Name x p) (e :: es) [] pos) (sCallV i L sA) := by
  refine ⟨fun pins s σ H Q I h => ?_⟩
  obtain ⟨ρ, F, Rv, io, rel, q⟩ := h
  unfold sCallV at q
  obtain ⟨nm, e1⟩ : ∃ nm, ρ[i]? = some (.fro (.fn nm)) := by
    cases e1 : ρ[i]? with
    | none => rw [e1] at q; exact q.elim
    | some c =>
      rw [e1] at q
      cases c with
      | fro d => cases d with
        | fn nm => exact ⟨nm, rfl⟩
        | _ => exact q.elim
      | _ => exact q.elim
  rw [e1] at q
  have q : match (match lookF L nm with | some z => sCallP z.1 z.2 sA ρ | none => .stuck : R D) with | .ok d ρ' => EPost (GK X ex) io Rv F σ ρ' d Q | .exc x ρ' => XPost (GK X ex) W io Rv F ρ' x | .stuck => False := q
  cases e2 : lookF L nm with
  | none => rw [e2] at q; exact q.elim
  | some z =>
    rw [e2] at q
    obtain ⟨v, es1, ok⟩ := rel.slot e1
    obtain ⟨y, rfl, rp⟩ := ok
    cases rp
    obtain ⟨fd, ps, FF, hk, hb⟩ := (C _ (lookF_mem e2)).there
    refine wpAny_Call_Name_kw (thn ((pe_var (pos := p) hN hv hdb hcd).run pins s σ H (fun v H1 => v = .ref (fnA X.K nm) ∧ H1 = H) I ⟨_, es1, rfl, rfl⟩) fun u s1 ⟨v, H1, I1, r1, q1⟩ => ?_)
    obtain ⟨rfl, rfl⟩ := q1
    cases r1
    refine PySem.W.callWith_K (h₀ := X.base) I.ok.mod.kin hk (thn (ha.run pos pins s1 σ _ _ I1 (callP_core ⟨ρ, F, Rv, io, rel, q⟩)) fun us s2 ⟨vs, H2, I2, r, q⟩ => ⟨I2.kIn, ?_⟩) he hpl
    exact run_fnS FF hr hb (L2N.passAt hu.tk σ) I2 r q
/-- f() -/
theorem d_call0 {g : List D → FR} (hu : At X W) (C : Cal X.prog X.w X.K X.mg X.base x k (spP (GK X ex) 0 g)) (hr : Room k X.A) (hg : Gl X x) (hdb : (x == ("__debug__" : Str)) = false := by decide) : DE (GK X ex) X W (.Call (.Name x p) [] [] pos) (sCallP 0 g sNil) := by
  refine ⟨fun pins s σ H Q I h => ?_⟩
  obtain ⟨f, fd, ps, F, hm, hk, hb⟩ := C.there
  refine wpAny_Call_Name_kw (ld_glob I hg hm (PySem.W.callWith_K0 I.kIn hk (run_fnS (us := []) F hr hb (L2N.passAt hu.tk σ) I .nil ?_)) hdb)
  obtain ⟨ρ, F1, Rv, io, rel, q⟩ := callP_core h
  exact q [] H F1 (FLe.refl _) rel .nil
/-! ### zip(a, b) of two lists -/
def pairUp (xs ys : List D) : List D := List.zipWith (fun x y => .arg [x, y]) xs ys
theorem iter_zip {K : PySem.W.Frag} {F : Hp} {a b : Addr} {vs ws : List V} {xs ys : List D} (ha : F a = some (.lst vs)) (hb : F b = some (.lst ws)) (rx : Rps K F vs xs) (ry : Rps K F ws ys) : IterOk K (Itz K a b) F (pairUp xs ys) := by
  have at1 : ∀ {F1 H : Hp}, FLe F F1 → FLe F1 H → SqL K H a vs := fun h1 h2 => SqL.of (h2 _ _ (h1 _ _ ha))
  have at2 : ∀ {F1 H : Hp}, FLe F F1 → FLe F1 H → SqL K H b ws := fun h1 h2 => SqL.of (h2 _ _ (h1 _ _ hb))
  have lx := rx.length
  have ly := ry.length
  refine ⟨fun i F1 H h1 h2 hi => ?_, fun F1 H h1 h2 => ⟨vs, ws, at1 h1 h2, at2 h1 h2, ?_⟩, fun i F1 H H' x d h1 h2 e y => ?_⟩
  · unfold pairUp at hi
    rw [List.length_zipWith] at hi
    exact ⟨vs, ws, vs[i]'(by omega), ws[i]'(by omega), at1 h1 h2, at2 h1 h2, by simp [show i < vs.length by omega], by simp [show i < ws.length by omega]⟩
  · unfold pairUp
    rw [List.length_zipWith]
    omega
  · obtain ⟨T, v, w, rfl, hT, rfl, g1, g2⟩ := y
    unfold pairUp at e
    rw [List.getElem?_zipWith] at e
    cases ex : xs[i]? with
    | none => rw [ex] at e; cases e
    | some dx =>
      cases ey : ys[i]? with
      | none => rw [ex, ey] at e; cases e
      | some dy =>
        rw [ex, ey] at e
        cases e
        obtain ⟨v', e1, r1⟩ := rx.get ex
        obtain ⟨w', e2, r2⟩ := ry.get ey
        have e3 := g1 vs (at1 h1 h2)
        have e4 := g2 ws (at2 h1 h2)
        rw [e1] at e3; cases e3
        rw [e2] at e4; cases e4
        have n := New.obj h2 hT (.tup [v, w])
        exact ⟨_, n, .arg (.inl (.inl upd_same)) (.cons (r1.mono (h1.trans n.f)) (.cons (r2.mono (h1.trans n.f)) .nil))⟩
def zipD : List D → Option (List D)
  | [.lst xs, .lst ys] => some (pairUp xs ys)
  | _ => none
theorem zipD_some {ds zs : List D} (h : zipD ds = some zs) : ∃ xs ys, ds = [.lst xs, .lst ys] ∧ zs = pairUp xs ys := by
  unfold zipD at h
  split at h
  · cases h; exact ⟨_, _, rfl, rfl⟩
  · cases h
def iZipS (s : SA) : SA := fun ρ => (s ρ).bind fun ds ρ' => ofO (zipD ds) ρ'
@[simp] theorem ev_iZip (s : SA) (ρ : Env) : iZipS s ρ = (s ρ).bind fun ds ρ' => ofO (zipD ds) ρ' := rfl
theorem d_iZip {e2 : Expr} {elts : List Expr} {kk : Nat} {tpos : Pos} (hg : Gl X "zip") (hm : X.mg "zip" = none) (ha : DA (GK X ex) X W [e, e2] sA) (hs : starEach [e, e2] X.env = (false, eval e X.env) :: starEach [e2] X.env := by rfl) (hpl : (backTo pos (starEach [e2] X.env)).any (·.1) = false := by rfl) :
    DI (GK X ex) X W (.Tuple elts kk tpos) (.Call (.Name "zip" p) [e, e2] [] pos) (iZipS sA) :=
  wkI (pi_zip hg hm ha hs hpl) fun σ H Q ⟨ρ, F, Rv, io, rel, q⟩ => by
    refine ⟨ρ, F, Rv, io, rel, ?_⟩
    unfold iZipS at q
    cases e1 : sA ρ with
    | stuck => rw [e1] at q; exact q.elim
    | exc x ρ' => rw [e1] at q; exact q
    | ok ds ρ' =>
      rw [e1, R.bind_ok] at q
      intro vs H' F' le rel' rs
      cases e3 : zipD ds with
      | none => rw [e3] at q; exact q.elim
      | some zs =>
        rw [e3] at q
        obtain ⟨xs, ys, rfl, rfl⟩ := zipD_some e3
        obtain ⟨v1, v2, rfl, r1, r2⟩ : ∃ v1 v2, vs = [v1, v2] ∧ Rp X.K F' v1 (.lst xs) ∧ Rp X.K F' v2 (.lst ys) := by
          cases rs with
          | cons r1 rs =>
            cases rs with
            | cons r2 rs => cases rs; exact ⟨_, _, rfl, r1, r2⟩
        obtain ⟨a, vs, rfl, t1, q1⟩ : ∃ a vs, v1 = .ref a ∧ F' a = some (.lst vs) ∧ Rps X.K F' vs xs := by cases r1; exact ⟨_, _, rfl, by assumption, by assumption⟩
        obtain ⟨b, ws, rfl, t2, q2⟩ : ∃ a vs, v2 = .ref a ∧ F' a = some (.lst vs) ∧ Rps X.K F' vs ys := by cases r2; exact ⟨_, _, rfl, by assumption, by assumption⟩
        exact ⟨a, b, vs, ws, rfl, SqL.of (rel'.fH _ _ t1), SqL.of (rel'.fH _ _ t2), q _ H' F' le rel' (iter_zip t1 t2 q1 q2)⟩
/-! ### {k: v, ..} -/
def sPairs : List (SE × SE) → Env → R (List (Key × D))
  | [], ρ => .ok [] ρ
  | t :: r, ρ => (t.1 ρ).bind fun kd ρ1 => (t.2 ρ1).bind fun d ρ2 => match keyOf kd with
    | none => .stuck
    | some k => (sPairs r ρ2).bind fun l ρ3 => .ok ((k, d) :: l) ρ3
def putAll (l : List (Key × D)) (acc : List Key × List D) : List Key × List D := l.foldl (fun acc kd => dPut acc.1 acc.2 kd.1 kd.2) acc
def sDisp (l : List (SE × SE)) : SE := fun ρ => (noX (sPairs l ρ)).bind fun l ρ' => if l.length ≤ 15 then .ok (.dct (putAll l ([], [])).1 (putAll l ([], [])).2) ρ' else .stuck
@[simp] theorem ev_pairs0 (ρ : Env) : sPairs [] ρ = .ok [] ρ := rfl
@[simp] theorem ev_pairs1 (t : SE × SE) (r : List (SE × SE)) (ρ : Env) : sPairs (t :: r) ρ = (t.1 ρ).bind fun kd ρ1 => (t.2 ρ1).bind fun d ρ2 => match keyOf kd with
    | none => .stuck
    | some k => (sPairs r ρ2).bind fun l ρ3 => .ok ((k, d) :: l) ρ3 := rfl
@[simp] theorem ev_disp (l : List (SE × SE)) (ρ : Env) : sDisp l ρ = (noX (sPairs l ρ)).bind fun l ρ' => if l.length ≤ 15 then .ok (.dct (putAll l ([], [])).1 (putAll l ([], [])).2) ρ' else .stuck := rfl
theorem pairs_core {G : Gx} {io : Io G.ex.tabs} {Rv : Hp} {σ : L2.St} : ∀ {l : List (SE × SE)} {ρ ρ' : Env} {F H : Hp} {kds : List (Key × D)} {Q : List (V × V) → Hp → Prop}, Rel G.K io Rv ρ F σ H → sPairs l ρ = .ok kds ρ' →
    (∀ (kvs : List (Key × V)) (H' F' : Hp), FLe F F' → Rel G.K io Rv ρ' F' σ H' → kvs.map (·.1) = kds.map (·.1) → Rps G.K F' (kvs.map (·.2)) (kds.map (·.2)) → Q (kvs.map fun kv => (kV kv.1, kv.2)) H') → tPairs (l.map fun t => (tE G W t.1, tE G W t.2)) σ H Q
  | [], ρ, ρ', F, H, kds, Q, rel, e, q => by
    cases e
    exact q [] H F (FLe.refl F) rel rfl .nil
  | t :: r, ρ, ρ', F, H, kds, Q, rel, e, q => by
    rw [ev_pairs1] at e
    refine ⟨ρ, F, Rv, io, rel, ?_⟩
    cases e1 : t.1 ρ with
    | stuck => rw [e1] at e; cases e
    | exc x ρ1 => rw [e1] at e; cases e
    | ok kd ρ1 =>
      rw [e1, R.bind_ok] at e
      intro x H1 F1 le1 rel1 rp1
      refine ⟨ρ1, F1, Rv, io, rel1, ?_⟩
      cases e2 : t.2 ρ1 with
      | stuck => rw [e2] at e; cases e
      | exc x ρ1 => rw [e2] at e; cases e
      | ok d ρ2 =>
        rw [e2, R.bind_ok] at e
        cases e3 : keyOf kd with
        | none => rw [e3] at e; cases e
        | some key =>
          rw [e3] at e
          intro y H2 F2 le2 rel2 rp2
          have ek := keyOf_vw (H := H1) (.inl rp1) e3
          subst ek
          cases e4 : sPairs r ρ2 with
          | stuck => rw [e4] at e; cases e
          | exc x ρ1 => rw [e4] at e; cases e
          | ok l4 ρ4 =>
            rw [e4] at e
            cases e
            exact pairs_core rel2 e4 fun kvs H' F' le rel' k' r' => q ((key, y) :: kvs) H' F' ((le1.trans le2).trans le) rel' (by simp [k']) (.cons (rp2.mono le) r')
theorem merge_put {K : PySem.W.Frag} {F : Hp} : ∀ {kds : List (Key × D)} {kvs acc : List (Key × V)} {da : List D}, kvs.map (·.1) = kds.map (·.1) → Rps K F (kvs.map (·.2)) (kds.map (·.2)) → Rps K F (acc.map (·.2)) da →
    (mergeK acc kvs).map (·.1) = (putAll kds (acc.map (·.1), da)).1 ∧ Rps K F ((mergeK acc kvs).map (·.2)) (putAll kds (acc.map (·.1), da)).2
  | [], [], acc, da, _, _, ra => ⟨rfl, ra⟩
  | [], _ :: _, _, _, e, _, _ => by simp at e
  | _ :: _, [], _, _, e, _, _ => by simp at e
  | kd :: kds, kv :: kvs, acc, da, e, r, ra => by
    rw [List.map_cons, List.map_cons] at e
    obtain ⟨e1, e2⟩ := List.cons.inj e
    cases r with
    | cons r1 r2 =>
      obtain ⟨k1, k2⟩ := dPut_put (k := kv.1) r1 ra
      obtain ⟨h1, h2⟩ := merge_put (acc := putK acc kv.1 kv.2) e2 r2 k2
      have e3 : putAll (kd :: kds) (acc.map (·.1), da) = putAll kds ((putK acc kv.1 kv.2).map (·.1), (dPut (acc.map (·.1)) da kv.1 kd.2).2) := by
        show putAll kds (dPut (acc.map (·.1)) da kd.1 kd.2) = _
        have k1' : (putK acc kv.1 kv.2).map (·.1) = (dPut (acc.map (·.1)) da kv.1 kd.2).1 := k1
        rw [← e1, k1']
      rw [e3]
      exact ⟨h1, h2⟩
theorem d_dispF {keys : List (Option Expr)} {values : List Expr} {l : List (SE × SE)} (h : PPs X pos keys values (l.map fun t => (tE (GK X ex) W t.1, tE (GK X ex) W t.2))) (hall : keys.all (·.isSome) = true := by rfl) (hl : keys.length = values.length := by rfl) (h0 : keys ≠ [] := by simp)
    (h15 : keys.length ≤ 15 := by decide) : DF (GK X ex) X W (.Dict keys values pos) (sDisp l) := wkE (pe_disp h hall hl h0 h15) fun σ H Q ⟨ρ, F, Rv, io, rel, q⟩ => by
  rw [ev_disp] at q
  intro p hp
  cases e : sPairs l ρ with
  | stuck => rw [e] at q; exact q.elim
  | exc x ρ' => rw [e] at q; exact q.elim
  | ok kds ρ' =>
    rw [e] at q
    have q : match (if kds.length ≤ 15 then R.ok (.dct (putAll kds ([], [])).1 (putAll kds ([], [])).2) ρ' else .stuck : R D) with | .ok d ρ' => ∀ p H' F', FLe F F' → Rel X.K io Rv ρ' F' σ H' → OwnAt X.K F' Rv H' p d → Loose ρ' σ p → Q (.ref p) H' | .exc x ρ' => XPost (GK X ex) W io Rv F ρ' x | .stuck => False := q
    by_cases h5 : kds.length ≤ 15
    case neg => rw [if_neg h5] at q; exact q.elim
    rw [if_pos h5] at q
    have nR : Rv p = none := rel.rH.noneOf hp
    refine pairs_core (rel.resAdd hp (.dK [])) e fun kvs H2 F2 le rel2 k2 r2 => ⟨rel2.rH p _ upd_same, kvs, rfl, ?_, ?_⟩
    · have := congrArg List.length k2
      rw [List.length_map, List.length_map] at this
      omega
    · obtain ⟨relD, n1, n2, lo⟩ := (rel2.resPut (o' := .dK (mergeK [] kvs))).resDrop nR
      obtain ⟨m1, m2⟩ := merge_put (acc := []) k2 r2 .nil
      exact q p _ F2 le relD ⟨n1, nR, _, n2, _, rfl, m1, m2⟩ lo
/-! ### a, b, .. = [..], x, ..: the first is a new object -/
theorem Rel.keep {K : PySem.W.Frag} {T : List (Addr × Str)} {io : Io T} {Rv F : Hp} {ρ : Env} {σ : L2.St} {H : Hp} (r : Rel K io Rv ρ F σ H) {p : Addr} {o : HO} {d : D} (e : H p = some o) (ob : OwnObj K F p o d) (nF : F p = none) (lo : Loose ρ σ p) : Rel K io (L2.upd Rv p o) ρ F σ H := by
  refine ⟨r.fH, fun a u h => ?_, fun a u h => ?_, r.len, fun i c v e1 e2 => ?_, r.inj, r.ios, r.ioc, fun t ht => let q := r.tab t ht; let ⟨ps, ep⟩ := q.tbl; q.mv q.1 (by rw [upd_ne (own_ne (R := fun _ => none) ⟨nF, rfl, o, e, ob⟩ ep)]; exact q.2.1) (fun _ e => e) (FLe.refl F) (q.nR.upd (ob.nt default).1 ob.nx), r.nt⟩
  · by_cases z : a = p
    · subst z; rw [upd_same] at h; cases h; exact e
    · rw [upd_ne z] at h; exact r.rH a u h
  · rw [upd_ne (fun z => by subst z; rw [nF] at h; cases h)]
    exact r.dj a u h
  · have q := r.cell i c v e1 e2
    have own : ∀ {p' d}, v = some (.ref p') → c.held = some d → OwnAt K F Rv H p' d → OwnAt K F (L2.upd Rv p o) H p' d := fun {p' d} hv hh w =>
      ⟨w.nF, by rw [upd_ne (fun z => lo i c d e1 hh (by subst z; subst hv; exact e2))]; exact w.nR, w.at_⟩
    cases c with
    | no => trivial
    | fro d => exact q
    | own d => obtain ⟨p', e3, w⟩ := q; exact ⟨p', e3, own e3 rfl w⟩
    | io d => obtain ⟨p', e3, w⟩ := q; exact ⟨p', e3, own e3 rfl w⟩
def sAsgF (i n : Nat) (sF : SE) (s : SA) (gs : SGs) : SS := fun ρ => (sF ρ).bind fun d ρ1 => (s ρ1).bind fun ds ρ2 => if ds.length + 1 = n ∧ n ≤ 100 then (gOwn i d ρ2).bind fun _ ρ3 => (gs ds ρ3).bind fun _ ρ4 => .ok .nx ρ4 else .stuck
@[simp] theorem ev_asgF (i n : Nat) (sF : SE) (s : SA) (gs : SGs) (ρ : Env) : sAsgF i n sF s gs ρ = (sF ρ).bind fun d ρ1 => (s ρ1).bind fun ds ρ2 => if ds.length + 1 = n ∧ n ≤ 100 then (gOwn i d ρ2).bind fun _ ρ3 => (gs ds ρ3).bind fun _ ρ4 => .ok .nx ρ4 else .stuck := rfl
theorem d_asgF {i n kk k2 : Nat} {tp vp np : Pos} {ts : List Expr} {sF : SE} {gs : SGs} {js : List Nat} (hu : At X W) (hi : X.N[i]? = some x) (hx : Loc X.env.scope x) (hf : DF (GK X ex) X W e sF) (ha : DA (GK X ex) X W es sA) (hg : DGs (GK X ex) X W js ts gs)
    (he : starEach (e :: es) X.env = (false, eval e X.env) :: starEach es X.env := by rfl) (hn : (assignEach (.Name x np :: ts) X.env).length = n := by rfl) (hst : (assignEach (.Name x np :: ts) X.env).findIdx? (·.1) = none := by rfl)
    (ht : (assignEach (.Name x np :: ts) X.env).map (·.2) = assign (.Name x np) X.env :: (assignEach ts X.env).map (·.2) := by rfl) (hff : X.fn x = true ∨ X.env.scope.names.lookup x = some .local := by first | exact .inl rfl | exact .inr rfl | assumption)
    (hs : swapsWithSole [.Tuple (.Name x np :: ts) kk tp] (.Tuple (e :: es) k2 vp) pos.line X.env = pure false := by rfl) (hw : swappedStores [.Tuple (.Name x np :: ts) kk tp] (.Tuple (e :: es) k2 vp) X.env = pure none := by rfl)
    (h1 : (assignEach [.Tuple (.Name x np :: ts) kk tp] X.env).map (·.2) = [assign (.Tuple (.Name x np :: ts) kk tp) X.env] := by rfl) :
    DS (GK X ex) X W (.Assign [.Tuple (.Name x np :: ts) kk tp] (.Tuple (e :: es) k2 vp) pos) (sAsgF i n sF sA gs) :=
  wkS (ps_asg (pe_tupZ (pa_cons hf ha he)) (pg_tup hu.calm (pgs_cons (pg_name hu.nd hi hx hff) hg ht) hn hst) hs hw h1) fun D σ H ⟨ρ, F, Rv, io, rel, q⟩ => by
    rw [ev_asgF] at q
    refine ⟨ρ, F, Rv, io, rel, ?_⟩
    cases e1 : sF ρ with
    | stuck => rw [e1] at q; exact q.elim
    | exc x ρ1 => rw [e1] at q; exact q
    | ok d ρ1 =>
      rw [e1, R.bind_ok] at q
      intro p H1 F1 le1 rel1 ow lo
      obtain ⟨o, ho, oo⟩ := ow.at_
      refine ⟨ρ1, F1, _, io, rel1.keep ho oo ow.nF lo, ?_⟩
      cases e2 : sA ρ1 with
      | stuck => rw [e2] at q; exact q.elim
      | exc x ρ2 => rw [e2] at q; exact fun cls dd σ' H' F' le rel' xr => q cls dd σ' H' F' (le1.trans le) (rel'.resDrop ow.nR).1 xr
      | ok ds ρ2 =>
        rw [e2, R.bind_ok] at q
        intro vs H2 F2 le2 rel2 rs
        obtain ⟨relD, n1, n2, lo2⟩ := rel2.resDrop ow.nR
        by_cases hl : ds.length + 1 = n ∧ n ≤ 100
        case neg => rw [if_neg hl] at q; exact q.elim
        rw [if_pos hl] at q
        have lv := rs.length
        refine ⟨line_pos (by rw [List.length_cons]; omega), fun t ob ht' hod => ⟨t, V.ref p :: vs, rfl, .inl (.inr ⟨ob, upd_same⟩), by rw [List.length_cons]; omega, V.ref p, vs, rfl, ?_⟩⟩
        cases e3 : gOwn i d ρ2 with
        | stuck => rw [e3] at q; exact q.elim
        | exc x ρ3 => unfold gOwn at e3; split at e3 <;> cases e3
        | ok u ρ3 =>
          rw [e3, R.bind_ok] at q
          obtain ⟨hio, rfl⟩ := gOwn_ok e3
          have relT := relD.newH ht' (.frz ob (.tup (V.ref p :: vs)))
          have pt : p ≠ t := fun z => by subst z; rw [n2] at ht'; cases ht'
          have relS := relT.setOwn (i := i) (p := p) (d := d) ⟨n1, ow.nR, o, by rw [upd_ne pt]; exact n2, oo.mono le2⟩ lo2 hio
          show tGs (GK X ex) W js gs vs (σ.set i (some (.ref p))) _ _
          refine ⟨ds, ρ2.set i (.own d), F2, Rv, io, relS, rs, ?_⟩
          cases e4 : gs ds (ρ2.set i (.own d)) with
          | stuck => rw [e4] at q; exact q.elim
          | exc x ρ4 => rw [e4] at q; exact XPost.le q (le1.trans le2)
          | ok u ρ4 => rw [e4] at q; exact fun σ' H' F' le rel' _ => q σ' H' F' ((le1.trans le2).trans le) rel'
end
end Dt

set_option Elab.async false
set_option linter.all false
set_option maxRecDepth 100000
set_option maxHeartbeats 4000000
/-! Tuples of the module, d.update(e), sorted texts, zip of two tuples. -/
namespace Dt
open PySem PySem.Spec PyProof.Rows L2 RZ
section
variable {ex : Exx} {X : Cx} {W : WX} {e o : Expr} {es : List Expr} {x : Str} {p pos : Pos} {sA : SA} {ea : SE}
/-- a tuple of the module -/
theorem d_globT {vs : List V} {ds : List D} (hg : Gl X x) (hm : ∃ a, X.mg x = some (.ref a) ∧ ∀ F, SqT X.K F a vs) (rp : ∀ F, Rps X.K F vs ds) (hd : (x == ("__debug__" : Str)) = false := by decide) : DE (GK X ex) X W (.Name x p) (sCst (.arg ds)) :=
  let ⟨a, h1, h2⟩ := hm
  d_glob (v := .ref a) hg ⟨_, h1, rfl⟩ (fun F => .arg (h2 F) (rp F)) hd
/-! ### d.update(e) -/
def rDUpd : V → List V → Hp → VK → Prop := fun x xs H Q => ∃ (a b : Addr) (kvs more : List (Key × V)), x = .ref a ∧ xs = [.ref b] ∧ a ≠ b ∧ H a = some (.dK kvs) ∧ Rd H b (.dK more) ∧ kvs.length + more.length ≤ sizeLine ∧ Q .non (L2.upd H a (.dK (mergeK kvs more)))
theorem mt_dupd : MtR X "dict.update" rDUpd := by
  intro pins s σ H x xs v us Q I rx rv ⟨a, b, kvs, more, ex, exs, ne, ha, hb, hz, q⟩
  subst ex exs
  cases rx
  obtain ⟨u, rfl, ru⟩ := rv.one
  cases ru
  obtain ⟨z1, s1, vs, r1, d1⟩ := dk_of I.hok ha
  obtain ⟨z2, s2, ws, r2, d2⟩ := dk_rd I.hok hb
  refine call_meetsIn PySem.F.slot_dict_update d1.typeIs PySem.F.entry_dict_update (PySem.F.args_dict_update_2 _ _) (meets_dict_update (mixKind X.prog X.w) a b ne s2) ⟨vs, ws, d1, d2, by rw [← r1.length, ← r2.length]; exact hz, fun h' dd _ hs => ?_⟩
  refine ⟨.non, _, d_write (t' := s.toks) I (by rw [ha]; exact True.intro) hs (let ⟨q, _, _, hq, _⟩ := dd; ⟨q, hq⟩) (dk_new (Nat.le_trans (length_mergeK more kvs) hz) s1 (r2.merge r1) dd), rfl, q⟩
def dctOf : Option D → Option (List Key × List D)
  | some (.dct ks ds) => some (ks, ds)
  | _ => none
theorem dctOf_some {o : Option D} {z : List Key × List D} (h : dctOf o = some z) : o = some (.dct z.1 z.2) := by
  unfold dctOf at h
  split at h
  · cases h; rfl
  · cases h
/-- the variable at i is a dict of its own; what is put in is a dict that is data -/
def sDUpd (i : Nat) (s : SE) : SE := fun ρ => match dctOf (held ρ i) with
  | none => .stuck
  | some _ => (s ρ).bind fun d ρ' => match dctOf (held ρ' i), dctOf (some d) with
    | some a, some b => if a.1.length + b.1.length ≤ sizeLine then .ok .non (put ρ' i (.dct (putAll (b.1.zip b.2) a).1 (putAll (b.1.zip b.2) a).2)) else .stuck
    | _, _ => .stuck
@[simp] theorem ev_dupd (i : Nat) (s : SE) (ρ : Env) : sDUpd i s ρ = match dctOf (held ρ i) with
  | none => .stuck
  | some _ => (s ρ).bind fun d ρ' => match dctOf (held ρ' i), dctOf (some d) with
    | some a, some b => if a.1.length + b.1.length ≤ sizeLine then .ok .non (put ρ' i (.dct (putAll (b.1.zip b.2) a).1 (putAll (b.1.zip b.2) a).2)) else .stuck
    | _, _ => .stuck := rfl
@[simp] theorem dctOf_dct (ks : List Key) (ds : List D) : dctOf (some (.dct ks ds)) = some (ks, ds) := rfl
theorem dupd_core {i : Nat} {σ : L2.St} {H : Hp} {Q : VK} (h : tE (GK X ex) W (sDUpd i ea) σ H Q) : tBM X.K "dict" rDUpd (tVar i) (tA (GK X ex) W (sCons ea sNil)) σ H Q := by
  obtain ⟨ρ, F, Rv, io, rel, q⟩ := h
  rw [ev_dupd] at q
  cases e1 : dctOf (held ρ i) with
  | none => rw [e1] at q; exact q.elim
  | some z0 =>
    rw [e1] at q
    obtain ⟨p, ob, e2, e3, e4, _⟩ := put_own (G := GK X ex) (d' := .dct z0.1 z0.2) rel (dctOf_some e1)
    obtain ⟨kvs0, rfl, _, _⟩ := e4
    refine ⟨_, e2, .inr (.inr (.inl ⟨rfl, .inl ⟨_, e3⟩⟩)), ρ, F, Rv, io, rel, ?_⟩
    unfold sCons
    cases e5 : ea ρ with
    | stuck => rw [e5] at q; exact q.elim
    | exc x ρ' => rw [e5] at q; exact q
    | ok d ρ' =>
      rw [e5] at q
      rw [R.bind_ok] at q ⊢
      intro xs H' F' le rel' rx
      cases e6 : dctOf (held ρ' i) with
      | none => rw [e6] at q; exact q.elim
      | some a =>
        cases e7 : dctOf (some d) with
        | none => rw [e6, e7] at q; exact q.elim
        | some b =>
          rw [e6, e7] at q
          have q : match (if a.1.length + b.1.length ≤ sizeLine then R.ok .non (put ρ' i (.dct (putAll (b.1.zip b.2) a).1 (putAll (b.1.zip b.2) a).2)) else .stuck : R D) with | .ok d ρ' => EPost (GK X ex) io Rv F σ ρ' d Q | .exc x ρ' => XPost (GK X ex) W io Rv F ρ' x | .stuck => False := q
          by_cases hz : a.1.length + b.1.length ≤ sizeLine
          case neg => rw [if_neg hz] at q; exact q.elim
          rw [if_pos hz] at q
          obtain rfl := Option.some.inj (dctOf_some e7)
          obtain ⟨p', ob', e9, e10, e11, e12⟩ := put_own (G := GK X ex) (d' := .dct (putAll (b.1.zip b.2) a).1 (putAll (b.1.zip b.2) a).2) rel' (dctOf_some e6)
          rw [e2] at e9
          cases e9
          obtain ⟨kvs, rfl, k1, r1⟩ := e11
          cases rx with
          | @cons rvv _ _ _ rv rs =>
            cases rs
            obtain ⟨b1, kvs2, od, rfl, hb, k2, r2⟩ : ∃ (b1 : Addr) (kvs2 : List (Key × V)) (od : Obj), rvv = V.ref b1 ∧ F' b1 = some (.frz od (.dK kvs2)) ∧ kvs2.map (·.1) = b.1 ∧ Rps X.K F' (kvs2.map (·.2)) b.2 := by
              obtain ⟨bk, bd⟩ := b
              generalize hd : D.dct bk bd = dd at rv
              cases rv with
              | dct t r => cases hd; exact ⟨_, _, _, rfl, t, rfl, r⟩
              | _ => cases hd
            have ne : p ≠ b1 := fun z => by subst z; rw [rel'.fH _ _ hb] at e10; cases e10
            have l1 : kvs.length = a.1.length := by rw [← k1, List.length_map]
            have l2 : kvs2.length = b.1.length := by rw [← k2, List.length_map]
            have lb : b.2.length = b.1.length := by have := r2.length; rw [List.length_map] at this; omega
            refine ⟨p, b1, kvs, kvs2, rfl, rfl, ne, e10, .inr ⟨_, rel'.fH _ _ hb⟩, by rw [l1, l2]; exact hz, q _ _ F' le (e12 _ ⟨_, rfl, ?_⟩) .non⟩
            have m := merge_put (K := X.K) (F := F') (kds := b.1.zip b.2) (kvs := kvs2) (acc := kvs) (da := a.2) (by rw [List.map_fst_zip (Nat.le_of_eq lb.symm)]; exact k2) (by rw [List.map_snd_zip (Nat.le_of_eq lb)]; exact r2) r1
            rw [k1] at m
            exact m
theorem d_dupd {i : Nat} {apos cpos : Pos} (ho : PE X o (tVar i)) (ha : DE (GK X ex) X W e ea) (hbase : attributeBase o "update" X.env (eval o X.env) = eval o X.env := by rfl)
    (hfew : ((backTo cpos (starEach (e :: []) X.env)).all (fun x => !x.1) && (backToKw cpos (keywordEach [] X.env)).all (fun x => x.1.isSome)
      && decide ((e :: ([] : List Expr)).length + ([] : List Keyword).length + (if ([] : List Keyword).isEmpty then 0 else 1) < 30)) = true := by rfl)
    (hline : (apos.endLine == cpos.line) = true := by rfl) (hs : starEach (e :: []) X.env = (false, eval e X.env) :: starEach [] X.env := by rfl) (hplain : (backTo cpos (starEach [] X.env)).any (·.1) = false := by rfl) :
    DE (GK X ex) X W (.Call (.Attribute o "update" apos) (e :: []) [] cpos) (sDUpd i ea) :=
  wkE (pe_bm PySem.F.plainAttrs_dict PySem.F.slot_dict_update PySem.F.type_dict_update mt_dupd ho (d_cons ha d_nil hs) hbase hfew hline hs hplain) fun σ H Q h => dupd_core h
/-! ### sorted(xs), texts that stand in order -/
def strsOf : List D → Option (List Str)
  | [] => some []
  | .str z :: ds => (strsOf ds).map fun r => z :: r
  | _ => none
def rises : List Str → Bool
  | x :: y :: r => sLt x y && rises (y :: r)
  | _ => true
def gSorted : List D → Option D
  | [.lst ds] => (strsOf ds).bind fun xs => if xs.length < 64 ∧ rises xs = true then some (.lst ds) else none
  | _ => none
theorem strs_vw {K : PySem.W.Frag} {F : Hp} : ∀ {vs : List V} {ds : List D} {xs : List Str}, Rps K F vs ds → strsOf ds = some xs → vs = xs.map V.str
  | _, _, _, .nil, e => by cases e; rfl
  | _, _, _, .cons (d := d) (ds := ds) a b, e => by
    cases a with
    | str z =>
      simp only [strsOf] at e
      cases e1 : strsOf ds with
      | none => rw [e1] at e; cases e
      | some r => rw [e1] at e; cases e; rw [strs_vw b e1]; rfl
    | _ => simp only [strsOf] at e; cases e
theorem rises_all : ∀ {x : Str} {r : List Str}, rises (x :: r) = true → ∀ y ∈ r, x.cps.toList < y.cps.toList
  | x, y :: r, h, z, hz => by
    unfold rises at h
    rw [Bool.and_eq_true] at h
    have h1 : x.cps.toList < y.cps.toList := of_decide_eq_true h.1
    rcases List.mem_cons.mp hz with rfl | hz
    · exact h1
    · exact List.lt_trans h1 (rises_all h.2 z hz)
theorem rises_pair : ∀ {xs : List Str}, rises xs = true → xs.Pairwise fun a b => ¬ b.cps.toList < a.cps.toList
  | [], _ => .nil
  | [x], _ => List.pairwise_singleton _ _
  | x :: y :: r, h => by
    have h' := h
    unfold rises at h
    rw [Bool.and_eq_true] at h
    exact .cons (fun z hz => List.lt_asymm (rises_all h' z hz)) (rises_pair h.2)
theorem rising_pair : ∀ {x : Str} {r : List Str}, risingS x r = true → (x :: r).Pairwise fun a b => ¬ b.cps.toList < a.cps.toList
  | x, [], _ => List.pairwise_singleton _ _
  | x, y :: r, h => by
    unfold risingS at h
    rw [Bool.and_eq_true, ltCps_eq] at h
    have h1 : ¬ y.cps.toList < x.cps.toList := by simpa using h.1
    have ih := rising_pair h.2
    refine .cons (fun z hz => ?_) ih
    rcases List.mem_cons.mp hz with rfl | hz
    · exact h1
    · have h2 := (List.pairwise_cons.mp ih).1 z hz
      exact fun h3 => h1 (Std.lt_of_le_of_lt (List.not_lt.mp h2) h3)
theorem sorted_same {xs ys : List Str} (p : ys.Perm xs) (hy : sortedS ys = true) (hx : rises xs = true) : ys = xs := by
  refine List.Perm.eq_of_pairwise (le := fun a b => ¬ b.cps.toList < a.cps.toList) (fun a b _ _ h1 h2 => ?_) ?_ (rises_pair hx) p
  · have : a.cps.toList = b.cps.toList := List.le_antisymm (List.not_lt.mp h1) (List.not_lt.mp h2)
    cases a; cases b
    simp only at this
    congr 1
    exact Array.toList_inj.mp this
  · cases ys with
    | nil => exact .nil
    | cons y r => exact rising_pair hy
theorem fsem_sorted {G : Gx} : FSem G (rSortedS G.K) gSorted := fun F H vs ds d Q fh vw e q => by
  unfold gSorted at e
  split at e
  · rename_i ds
    cases e1 : strsOf ds with
    | none => rw [e1] at e; cases e
    | some xs =>
      rw [e1, Option.bind_some] at e
      by_cases hc : xs.length < 64 ∧ rises xs = true
      · rw [if_pos hc] at e
        cases e
        obtain ⟨v, rfl, h⟩ := vw.one
        obtain ⟨a, zs, rfl, t, r⟩ := h.lst fh
        have ez := strs_vw r e1
        refine ⟨a, xs, rfl, by rw [← ez]; exact SqL.of t, hc.1, fun ys pp hp hs hn => ?_⟩
        rw [sorted_same hp hs hc.2, ← ez]
        exact q pp _ hn ⟨_, rfl, r⟩
      · rw [if_neg hc] at e; cases e
  · cases e
theorem d_callBF {id : String} {r : RL} {g : List D → Option D} {sB : SB} (hc : CallR X (.builtin id) r) (hG : FSem (GK X ex) r g) (hg : Gl X x) (hm : X.mg x = none) (ha : DB (GK X ex) X W (e :: es) sB) (hv : bootBuiltins x = some (.builtin id) := by decide +kernel) (hn : x ≠ "__name__" := by decide)
    (hdb : (x == ("__debug__" : Str)) = false := by decide) (he : starEach (e :: es) X.env = (false, eval e X.env) :: starEach es X.env := by rfl) (hpl : (backTo pos (starEach es X.env)).any (·.1) = false := by rfl) : DF (GK X ex) X W (.Call (.Name x p) (e :: es) [] pos) (sOps g sB) :=
  wkE (pe_callB hc hg hm hv ha hn hdb he hpl) fun σ H Q h => opsF_core hG h
/-! ### zip(a, b) of two tuples -/
theorem iter_zipT {K : PySem.W.Frag} {F : Hp} {a b : Addr} {vs ws : List V} {xs ys : List D} (ha : SqT K F a vs) (hb : SqT K F b ws) (rx : Rps K F vs xs) (ry : Rps K F ws ys) : IterOk K (ItzT K a b) F (pairUp xs ys) := by
  have at1 : ∀ {F1 H : Hp}, FLe F F1 → FLe F1 H → SqT K H a vs := fun h1 h2 => h2.sqT (h1.sqT ha)
  have at2 : ∀ {F1 H : Hp}, FLe F F1 → FLe F1 H → SqT K H b ws := fun h1 h2 => h2.sqT (h1.sqT hb)
  have lx := rx.length
  have ly := ry.length
  refine ⟨fun i F1 H h1 h2 hi => ?_, fun F1 H h1 h2 => ⟨vs, ws, at1 h1 h2, at2 h1 h2, ?_⟩, fun i F1 H H' x d h1 h2 e y => ?_⟩
  · unfold pairUp at hi
    rw [List.length_zipWith] at hi
    exact ⟨vs, ws, vs[i]'(by omega), ws[i]'(by omega), at1 h1 h2, at2 h1 h2, by simp [show i < vs.length by omega], by simp [show i < ws.length by omega]⟩
  · unfold pairUp
    rw [List.length_zipWith]
    omega
  · obtain ⟨T, v, w, rfl, hT, rfl, g1, g2⟩ := y
    unfold pairUp at e
    rw [List.getElem?_zipWith] at e
    cases ex : xs[i]? with
    | none => rw [ex] at e; cases e
    | some dx =>
      cases ey : ys[i]? with
      | none => rw [ex, ey] at e; cases e
      | some dy =>
        rw [ex, ey] at e
        cases e
        obtain ⟨v', e1, r1⟩ := rx.get ex
        obtain ⟨w', e2, r2⟩ := ry.get ey
        have e3 := g1 vs (at1 h1 h2)
        have e4 := g2 ws (at2 h1 h2)
        rw [e1] at e3; cases e3
        rw [e2] at e4; cases e4
        have n := New.obj h2 hT (.tup [v, w])
        exact ⟨_, n, .arg (.inl (.inl upd_same)) (.cons (r1.mono (h1.trans n.f)) (.cons (r2.mono (h1.trans n.f)) .nil))⟩
def zipT : List D → Option (List D)
  | [.tup xs, .tup ys] => some (pairUp xs ys)
  | _ => none
theorem zipT_some {ds zs : List D} (h : zipT ds = some zs) : ∃ xs ys, ds = [.tup xs, .tup ys] ∧ zs = pairUp xs ys := by
  unfold zipT at h
  split at h
  · cases h; exact ⟨_, _, rfl, rfl⟩
  · cases h
def iZipT (s : SA) : SA := fun ρ => (s ρ).bind fun ds ρ' => ofO (zipT ds) ρ'
@[simp] theorem ev_iZipT (s : SA) (ρ : Env) : iZipT s ρ = (s ρ).bind fun ds ρ' => ofO (zipT ds) ρ' := rfl
theorem d_iZipT {e2 : Expr} {elts : List Expr} {kk : Nat} {tpos : Pos} (hg : Gl X "zip") (hm : X.mg "zip" = none) (ha : DA (GK X ex) X W [e, e2] sA) (hs : starEach [e, e2] X.env = (false, eval e X.env) :: starEach [e2] X.env := by rfl) (hpl : (backTo pos (starEach [e2] X.env)).any (·.1) = false := by rfl) :
    DI (GK X ex) X W (.Tuple elts kk tpos) (.Call (.Name "zip" p) [e, e2] [] pos) (iZipT sA) :=
  wkI (pi_zipA hg hm ha hs hpl) fun σ H Q ⟨ρ, F, Rv, io, rel, q⟩ => by
    refine ⟨ρ, F, Rv, io, rel, ?_⟩
    unfold iZipT at q
    cases e1 : sA ρ with
    | stuck => rw [e1] at q; exact q.elim
    | exc x ρ' => rw [e1] at q; exact q
    | ok ds ρ' =>
      rw [e1, R.bind_ok] at q
      intro vs H' F' le rel' rs
      cases e3 : zipT ds with
      | none => rw [e3] at q; exact q.elim
      | some zs =>
        rw [e3] at q
        obtain ⟨xs, ys, rfl, rfl⟩ := zipT_some e3
        obtain ⟨v1, v2, rfl, r1, r2⟩ : ∃ v1 v2, vs = [v1, v2] ∧ Rp X.K F' v1 (.tup xs) ∧ Rp X.K F' v2 (.tup ys) := by
          cases rs with
          | cons r1 rs =>
            cases rs with
            | cons r2 rs => cases rs; exact ⟨_, _, rfl, r1, r2⟩
        obtain ⟨a, vs, rfl, t1, q1⟩ : ∃ a vs, v1 = .ref a ∧ TupC F' a vs ∧ Rps X.K F' vs xs := by cases r1; exact ⟨_, _, rfl, by assumption, by assumption⟩
        obtain ⟨b, ws, rfl, t2, q2⟩ : ∃ a vs, v2 = .ref a ∧ TupC F' a vs ∧ Rps X.K F' vs ys := by cases r2; exact ⟨_, _, rfl, by assumption, by assumption⟩
        exact ⟨a, b, vs, ws, rfl, .inr ⟨rel'.fH.sqT t1.sq, rel'.fH.sqT t2.sq, q _ H' F' le rel' (iter_zipT t1.sq t2.sq q1 q2)⟩⟩
end
end Dt

set_option Elab.async false
set_option linter.all false
set_option maxRecDepth 100000
set_option maxHeartbeats 4000000
/-! Dicts of a def's own whose keys are nested tuples of ints and truth values. -/
namespace Dt
open PySem PySem.Spec PyProof.Rows L2
theorem NestedAll.of {h : Heap} {ks : List NestedKey} {us : List Value} (r : NestedAll h ks us) : NestedAll h ks us.toArray.toList := by simpa using r
section
variable {X : Cx} {pins : List (Addr × Obj)} {σ : L2.St} {H F : Hp} {s : Shared}
mutual
theorem nk_is (I : Inv X pins σ H s) (fh : FLe F H) : ∀ {d : D} {v : V} {k : NestedKey} {u : Value}, Rp X.K F v d → nk d = some k → RelV v u → NestedIs s.heap k u
  | .bl b, _, _, _, r, e, q => by
    cases r
    simp only [nk] at e
    cases e
    obtain rfl : _ = Value.bool b := q
    exact .bool rfl
  | .int i, _, _, _, r, e, q => by
    cases r
    simp only [nk] at e
    cases e
    obtain ⟨t, rfl⟩ := q
    exact .int i t
  | .tup ds, _, _, _, r, e, q => by
    simp only [nk] at e
    cases e1 : nks ds with
    | none => rw [e1] at e; cases e
    | some ks =>
      rw [e1] at e
      cases e
      cases r with
      | @tup a xs _ t rs =>
        obtain rfl : _ = Value.ref a := q
        obtain ⟨its, rv, p, _⟩ := I.tuple (fh.sqT (t.sq (K := X.K)))
        obtain ⟨o, ho, hc, n, hd⟩ := id p
        exact .tup ho hc hd (NestedAll.of (nks_is I fh rs e1 rv))
  | .non, _, _, _, _, e, _ => by simp only [nk] at e; cases e
  | .str _, _, _, _, _, e, _ => by simp only [nk] at e; cases e
  | .lst _, _, _, _, _, e, _ => by simp only [nk] at e; cases e
  | .dct _ _, _, _, _, _, e, _ => by simp only [nk] at e; cases e
  | .scr _, _, _, _, _, e, _ => by simp only [nk] at e; cases e
  | .arg _, _, _, _, _, e, _ => by simp only [nk] at e; cases e
  | .fn _, _, _, _, _, e, _ => by simp only [nk] at e; cases e
  | .exn _, _, _, _, _, e, _ => by simp only [nk] at e; cases e
  | .nd _ _, _, _, _, _, e, _ => by simp only [nk] at e; cases e
theorem nks_is (I : Inv X pins σ H s) (fh : FLe F H) : ∀ {ds : List D} {vs : List V} {ks : List NestedKey} {us : List Value}, Rps X.K F vs ds → nks ds = some ks → Vals vs us → NestedAll s.heap ks us
  | [], _, _, _, r, e, q => by
    cases r
    simp only [nks] at e
    cases e
    cases q
    exact .nil
  | d :: ds, _, _, _, r, e, q => by
    simp only [nks] at e
    cases e1 : nk d with
    | none => rw [e1] at e; cases e
    | some k =>
      cases e2 : nks ds with
      | none => rw [e1, e2] at e; cases e
      | some ks =>
        rw [e1, e2] at e
        cases e
        cases r with
        | cons r1 r2 => cases q with
          | cons q1 q2 => exact .cons (nk_is I fh r1 e1 q1) (nks_is I fh r2 e2 q2)
end
theorem nkey_some {d : D} {k : NestedKey} (h : nkey d = some k) : nk d = some k ∧ k.depth ≤ 8 ∧ ∃ ds, d = .tup ds := by
  cases d with
  | tup ds =>
    simp only [nkey] at h
    cases e : nk (.tup ds) with
    | none => rw [e] at h; cases h
    | some k' =>
      rw [e] at h
      by_cases z : k'.depth ≤ 8
      · have h : (if k'.depth ≤ 8 then some k' else none) = some k := h
        rw [if_pos z] at h
        cases h
        exact ⟨rfl, z, ds, rfl⟩
      · have h : (if k'.depth ≤ 8 then some k' else none) = some k := h
        rw [if_neg z] at h
        cases h
  | _ => cases h
theorem nkey_is (I : Inv X pins σ H s) (fh : FLe F H) {d : D} {v : V} {k : NestedKey} {u : Value} (r : Rp X.K F v d) (e : nkey d = some k) (q : RelV v u) : ∃ a, v = .ref a ∧ u = .ref a ∧ (nestedKind X.prog X.w).is s.heap k a := by
  obtain ⟨h1, h2, ds, rfl⟩ := nkey_some e
  cases r with
  | @tup a xs _ t rs =>
    have z := nk_is I fh (.tup t rs) h1 q
    obtain rfl : u = Value.ref a := q
    exact ⟨a, rfl, rfl, z, h2⟩
mutual
/-- a key without texts: its hash is the same in every world -/
theorem nk_hash : ∀ {d : D} {k : NestedKey}, nk d = some k → ∀ w w' : World, k.hash w = k.hash w'
  | .bl b, _, e, w, w' => by simp only [nk] at e; cases e; rfl
  | .int i, _, e, w, w' => by simp only [nk] at e; cases e; rfl
  | .tup ds, _, e, w, w' => by
    simp only [nk] at e
    cases e1 : nks ds with
    | none => rw [e1] at e; cases e
    | some ks =>
      rw [e1] at e
      cases e
      show reduceHash (Builtin.Tuple.tupleHashOf (NestedKey.hashes w ks)) = reduceHash (Builtin.Tuple.tupleHashOf (NestedKey.hashes w' ks))
      rw [nks_hash e1 w w']
  | .non, _, e, _, _ => by simp only [nk] at e; cases e
  | .str _, _, e, _, _ => by simp only [nk] at e; cases e
  | .lst _, _, e, _, _ => by simp only [nk] at e; cases e
  | .dct _ _, _, e, _, _ => by simp only [nk] at e; cases e
  | .scr _, _, e, _, _ => by simp only [nk] at e; cases e
  | .arg _, _, e, _, _ => by simp only [nk] at e; cases e
  | .fn _, _, e, _, _ => by simp only [nk] at e; cases e
  | .exn _, _, e, _, _ => by simp only [nk] at e; cases e
  | .nd _ _, _, e, _, _ => by simp only [nk] at e; cases e
theorem nks_hash : ∀ {ds : List D} {ks : List NestedKey}, nks ds = some ks → ∀ w w' : World, NestedKey.hashes w ks = NestedKey.hashes w' ks
  | [], _, e, w, w' => by simp only [nks] at e; cases e; rfl
  | d :: ds, _, e, w, w' => by
    simp only [nks] at e
    cases e1 : nk d with
    | none => rw [e1] at e; cases e
    | some k =>
      cases e2 : nks ds with
      | none => rw [e1, e2] at e; cases e
      | some ks =>
        rw [e1, e2] at e
        cases e
        show NestedKey.hash w k :: NestedKey.hashes w ks = NestedKey.hash w' k :: NestedKey.hashes w' ks
        rw [nk_hash e1 w w', nks_hash e2 w w']
end
/-- what a dict holds at a key -/
def ndLook : List D → List D → NestedKey → Option D
  | k' :: ks, d :: ds, k => if nkey k' = some k then some d else ndLook ks ds k
  | _, _, _ => none
def ndPut (ks ds : List D) (kd : D) (k : NestedKey) (z : D) : List D × List D :=
  if (ndLook ks ds k).isSome = true then (ks, List.zipWith (fun k' d => if nkey k' = some k then z else d) ks ds) else (ks ++ [kd], ds ++ [z])
theorem nd_at {K : PySem.W.Frag} {k : NestedKey} : ∀ {xs : List (NestedKey × Addr × Value)} {ks ds : List D} {vs : List V}, ks.map nkey = xs.map (fun x => some x.1) → Vals vs (xs.map fun x => x.2.2) → Rps K F vs ds →
    (atKey xs k = none ∧ ndLook ks ds k = none) ∨ ∃ p d v, atKey xs k = some p ∧ ndLook ks ds k = some d ∧ RelV v p.2 ∧ Rp K F v d
  | [], [], ds, vs, _, rv, rs => by cases rv; cases rs; exact .inl ⟨rfl, rfl⟩
  | [], _ :: _, _, _, e, _, _ => by simp at e
  | _ :: _, [], _, _, e, _, _ => by simp at e
  | x :: xs, k' :: ks, ds, vs, e, rv, rs => by
    rw [List.map_cons, List.map_cons] at e
    obtain ⟨e1, e2⟩ := List.cons.inj e
    cases rv with
    | cons a b =>
      cases rs with
      | cons c d =>
        by_cases z : x.1 = k
        · have zk : nkey k' = some k := by rw [e1, z]
          exact .inr ⟨x.2, _, _, by simp [atKey, z], by simp [ndLook, zk], a, c⟩
        · have zk : ¬ nkey k' = some k := fun h => z (by rw [e1] at h; exact Option.some.inj h)
          have e3 : atKey (x :: xs) k = atKey xs k := by simp [atKey, z]
          have e4 : ∀ y ys, ndLook (k' :: ks) (y :: ys) k = ndLook ks ys k := fun y ys => by simp [ndLook, zk]
          rw [e3, e4]
          exact nd_at e2 b d
/-- a dict of the data stands at p -/
def NdAt (K : PySem.W.Frag) (F H : Hp) (p : Addr) (ks ds : List D) : Prop := ∃ ob xs vs, Rd H p (AtO p ob) ∧ NdC p ob xs ks vs ∧ Rps K F (xs.map fun x => .ref x.2.1) ks ∧ Rps K F vs ds
theorem Vw.nd {K : PySem.W.Frag} (fh : FLe F H) {v : V} {ks ds : List D} (h : Vw K F H v (.nd ks ds)) : ∃ p, v = .ref p ∧ NdAt K F H p ks ds := by
  rcases h with h | ⟨p, o, e, h1, ob, xs, vs, rfl, c, r1, r2⟩
  · cases h with
    | nd t c r1 r2 => exact ⟨_, rfl, _, _, _, .inr ⟨_, fh _ _ t⟩, c, r1, r2⟩
  · exact ⟨p, e, ob, xs, vs, .inl h1, c, r1, r2⟩
theorem keys_is (I : Inv X pins σ H s) (fh : FLe F H) : ∀ {xs : List (NestedKey × Addr × Value)} {ks : List D}, ks.map nkey = xs.map (fun x => some x.1) → Rps X.K F (xs.map fun x => V.ref x.2.1) ks → ∀ x ∈ xs, (nestedKind X.prog X.w).is s.heap x.1 x.2.1
  | [], _, _, _, x, hx => nomatch hx
  | _ :: _, [], e, _, _, _ => by simp at e
  | y :: xs, k :: ks, e, r, x, hx => by
    rw [List.map_cons, List.map_cons] at e
    obtain ⟨e1, e2⟩ := List.cons.inj e
    rw [List.map_cons] at r
    cases r with
    | cons r1 r2 =>
      rcases List.mem_cons.mp hx with rfl | hx
      · obtain ⟨a, h1, h2, h3⟩ := nkey_is (u := .ref x.2.1) I fh r1 e1 rfl
        cases h1
        exact h3
      · exact keys_is I fh e2 r2 x hx
theorem nd_of (I : Inv X pins σ H s) (fh : FLe F H) {p : Addr} {ob : Obj} {xs : List (NestedKey × Addr × Value)} {ks : List D} {vs : List V} (hp : Rd H p (AtO p ob)) (c : NdC p ob xs ks vs) (rk : Rps X.K F (xs.map fun x => .ref x.2.1) ks) :
    s.heap.get? p = some ob ∧ s.heap.DictOfH (nestedKind X.prog X.w) p xs := by
  obtain ⟨h1, _⟩ := (show ObjOk X.prog X.w H s.heap p (AtO p ob) from rd_of I.hok hp)
  obtain ⟨es, ep, h2, h3⟩ := c.en
  exact ⟨h1, ob, es, ep, h1, c.ex, h2, h3 _ _, keys_is I fh c.keys rk, c.nod⟩
theorem ato_ok {P : Program} {w : World} {H : Hp} {h : Heap} {p : Addr} {ob : Obj} (e : h.get? p = some ob) : ObjOk P w H h p (AtO p ob) := ⟨e, ⟨ob, e⟩, fun h1 h2 e1 k => k ob e1⟩
def rInN (K : PySem.W.Frag) (neg : Bool) : R2 := fun x y H Q => ∃ (F : Hp) (p : Addr) (ks ds : List D) (kd : D) (k : NestedKey), FLe F H ∧ y = .ref p ∧ NdAt K F H p ks ds ∧ Rp K F x kd ∧ nkey kd = some k ∧ Q (.bl (xor neg (ndLook ks ds k).isSome)) H
theorem nd_some {K : PySem.W.Frag} {xs : List (NestedKey × Addr × Value)} {ks ds : List D} {vs : List V} {k : NestedKey} (c : ks.map nkey = xs.map (fun x => some x.1)) (rv : Vals vs (xs.map fun x => x.2.2)) (rs : Rps K F vs ds) : (atKey xs k).isSome = (ndLook ks ds k).isSome := by
  rcases nd_at (k := k) c rv rs with ⟨e1, e2⟩ | ⟨p, d, v, e1, e2, _⟩ <;> rw [e1, e2] <;> rfl
theorem op_inN (hu : X.A.units + 64 < cLine) : OpR X (compareOp .In) (rInN X.K false) := by
  intro pins s σ H x y v u Q I rx ry ⟨F, p, ks, ds, kd, k, fh, e, ⟨ob, xs, vs, hp, c, rk, rv⟩, rp, ek, q⟩
  subst e
  obtain rfl : u = Value.ref p := ry
  obtain ⟨a, rfl, rfl, hk⟩ := nkey_is I fh rp ek rx
  obtain ⟨_, dd⟩ := nd_of I fh hp c rk
  refine wpAny_in_heap (knd := nestedKind X.prog X.w) (show X.A.in1.units + 8 < cLine by rw [Around.in1_units]; omega) hk c.ns dd ?_
  rw [nd_some c.keys c.vals rv]
  exact ⟨.bl _, H, I.tok _, rfl, by simpa using q⟩
theorem op_notInN (hu : X.A.units + 64 < cLine) : OpR X (compareOp .NotIn) (rInN X.K true) := by
  intro pins s σ H x y v u Q I rx ry ⟨F, p, ks, ds, kd, k, fh, e, ⟨ob, xs, vs, hp, c, rk, rv⟩, rp, ek, q⟩
  subst e
  obtain rfl : u = Value.ref p := ry
  obtain ⟨a, rfl, rfl, hk⟩ := nkey_is I fh rp ek rx
  obtain ⟨_, dd⟩ := nd_of I fh hp c rk
  refine wpAny_notIn_heap (knd := nestedKind X.prog X.w) (show X.A.in1.units + 8 < cLine by rw [Around.in1_units]; omega) hk c.ns dd ?_
  rw [nd_some c.keys c.vals rv]
  exact ⟨.bl _, H, I.tok _, rfl, by simpa using q⟩
def rIxN (K : PySem.W.Frag) : R2 := fun x y H Q => ∃ (F : Hp) (p : Addr) (ks ds : List D) (kd : D) (k : NestedKey) (z : D), FLe F H ∧ x = .ref p ∧ NdAt K F H p ks ds ∧ Rp K F y kd ∧ nkey kd = some k ∧ ndLook ks ds k = some z ∧ ∀ v, Rp K F v z → Q v H
theorem ix_nd (hu : X.A.units + 64 < cLine) : IxR X (rIxN X.K) := by
  intro value slice pins s σ H x y v u Q I rx ry ⟨F, p, ks, ds, kd, k, z, fh, e, ⟨ob, xs, vs, hp, c, rk, rv⟩, rp, ek, el, q⟩ hs
  subst e
  obtain rfl : v = Value.ref p := rx
  obtain ⟨a, rfl, rfl, hk⟩ := nkey_is I fh rp ek ry
  obtain ⟨_, dd⟩ := nd_of I fh hp c rk
  rcases nd_at (k := k) c.keys c.vals rv with ⟨_, e2⟩ | ⟨pv, d, v, e1, e2, r1, r2⟩
  · rw [el] at e2; cases e2
  · rw [el] at e2
    cases e2
    exact tail_any (ops := [.ref p, .ref a]) dd.typeIs PySem.F.slot_dict_getitem.lookup (wpAny_getItem_heap (knd := nestedKind X.prog X.w) (show X.A.in1.units + 8 < cLine by rw [Around.in1_units]; omega) hk dd e1 ⟨v, H, I.tok _, r1, q v r2⟩) hs
/-! ### d[k] = v -/
theorem nkey_hash (w w' : World) {d : D} {k : NestedKey} (h : nkey d = some k) : k.hash w = k.hash w' := by
  unfold nkey at h
  split at h
  · split at h
    · rename_i e
      split at h
      · cases h; exact nk_hash e w w'
      · cases h
    · cases h
  · cases h
theorem stored_hash {P P' : Program} {w w' : World} {xs : List (NestedKey × Addr × Value)} {ks : List D} {kd : D} {k : NestedKey} {a : Addr} {r : Value} (hk : ks.map nkey = xs.map fun x => some x.1) (ek : nkey kd = some k) :
    (storedH xs k a r).map (entryOfKey (nestedKind P w)) = (storedH xs k a r).map (entryOfKey (nestedKind P' w')) := by
  refine List.map_congr_left fun x hx => ?_
  have key : x.1.hash w = x.1.hash w' := by
    have old : ∀ y ∈ xs, y.1.hash w = y.1.hash w' := fun y hy => by
      have m : some y.1 ∈ ks.map nkey := by rw [hk]; exact List.mem_map.mpr ⟨y, hy, rfl⟩
      obtain ⟨d, _, e⟩ := List.mem_map.mp m
      exact nkey_hash w w' e
    unfold storedH at hx
    split at hx
    · obtain ⟨y, hy, rfl⟩ := List.mem_map.mp hx
      have : (putAt k r y).1 = y.1 := by unfold putAt; split <;> rfl
      rw [this]
      exact old y hy
    · rcases List.mem_append.mp hx with hx | hx
      · exact old x hx
      · rw [List.mem_singleton.mp hx]; exact nkey_hash w w' ek
  show DictEntry.mk (x.1.hash w) _ _ = DictEntry.mk (x.1.hash w') _ _
  rw [key]
theorem nd_stored {K : PySem.W.Frag} {p a : Addr} {ob ob' : Obj} {xs : List (NestedKey × Addr × Value)} {ks ds : List D} {vs : List V} {kd z : D} {k : NestedKey} {v : V} {r : Value} (c : NdC p ob xs ks vs) (rk : Rps K F (xs.map fun x => .ref x.2.1) ks) (rv : Rps K F vs ds) (ek : nkey kd = some k) (ra : Rp K F (.ref a) kd)
    (rr : RelV v r) (rz : Rp K F v z) (hx : ob'.ExactDict) (hd : ∃ es ep, ob'.data = .dict es ep ∧ ∀ (P : Program) (w : World), es.toList = (storedH xs k a r).map (entryOfKey (nestedKind P w))) :
    OwnObj K F p (AtO p ob') (.nd (ndPut ks ds kd k z).1 (ndPut ks ds kd k z).2) := by
  unfold ndPut
  rw [← nd_some (k := k) c.keys c.vals rv]
  unfold storedH at hd
  by_cases h : (atKey xs k).isSome = true
  · rw [if_pos h] at hd ⊢
    have go : ∀ {xs : List (NestedKey × Addr × Value)} {ks ds : List D} {vs : List V}, ks.map nkey = xs.map (fun x => some x.1) → Vals vs (xs.map fun x => x.2.2) → Rps K F vs ds → ∃ vs', Vals vs' ((xs.map (putAt k r)).map fun x => x.2.2) ∧ Rps K F vs' (List.zipWith (fun k' d => if nkey k' = some k then z else d) ks ds) := by
      intro xs
      induction xs with
      | nil => intro ks ds vs e a b; cases ks with
        | nil => cases a; cases b; exact ⟨[], .nil, .nil⟩
        | cons _ _ => simp at e
      | cons x xs ih =>
        intro ks ds vs e a b
        cases ks with
        | nil => simp at e
        | cons k' ks =>
          rw [List.map_cons, List.map_cons] at e
          obtain ⟨e1, e2⟩ := List.cons.inj e
          cases a with
          | @cons vs0 _ _ _ a1 a2 => cases b with
            | cons b1 b2 =>
              obtain ⟨vs', h1, h2⟩ := ih e2 a2 b2
              by_cases q : x.1 = k
              · refine ⟨v :: vs', ?_, ?_⟩
                · rw [List.map_cons, List.map_cons]
                  refine .cons ?_ h1
                  rw [putAt, if_pos q]
                  exact rr
                · rw [List.zipWith_cons_cons, if_pos (by rw [e1, q])]
                  exact .cons rz h2
              · refine ⟨vs0 :: vs', ?_, ?_⟩
                · rw [List.map_cons, List.map_cons]
                  refine .cons ?_ h1
                  rw [putAt, if_neg q]
                  exact a1
                · rw [List.zipWith_cons_cons, if_neg (fun w => q (by rw [e1] at w; exact Option.some.inj w))]
                  exact .cons b1 h2
    obtain ⟨vs', h1, h2⟩ := go c.keys c.vals rv
    have km : ∀ {β : Type} (f : NestedKey → Addr → β), ((xs.map (putAt k r)).map fun x => f x.1 x.2.1) = xs.map fun x => f x.1 x.2.1 := fun f => by
      rw [List.map_map]
      refine List.map_congr_left fun x _ => ?_
      show f (putAt k r x).1 (putAt k r x).2.1 = _
      unfold putAt
      split <;> rfl
    refine ⟨ob', xs.map (putAt k r), vs', rfl, ⟨c.ns, hx, hd, ?_, h1, ?_⟩, ?_, h2⟩
    · rw [keys_map_putAt]; exact c.nod
    · rw [km fun k _ => some k]; exact c.keys
    · rw [km fun _ a => V.ref a]; exact rk
  · rw [if_neg h] at hd ⊢
    refine ⟨ob', xs ++ [(k, a, r)], vs ++ [v], rfl, ⟨c.ns, hx, hd, ?_, ?_, ?_⟩, ?_, rv.append (.cons rz .nil)⟩
    · rw [List.map_append, List.nodup_append]
      refine ⟨c.nod, by simp, ?_⟩
      intro b hb b' hb' z
      simp only [List.map_cons, List.map_nil, List.mem_singleton] at hb'
      subst hb' z
      obtain ⟨x, hx, e⟩ := List.mem_map.mp hb
      refine h ?_
      unfold atKey
      rw [Option.isSome_map, List.find?_isSome]
      exact ⟨x, hx, by simp [e]⟩
    · rw [List.map_append]; exact c.vals.append (.cons rr .nil)
    · rw [List.map_append, List.map_append, c.keys]
      show _ ++ [nkey kd] = _ ++ [some k]
      rw [ek]
    · rw [List.map_append]; exact rk.append (.cons ra .nil)
def rSetN (K : PySem.W.Frag) : TSet := fun o i v H Q => ∃ (F : Hp) (p : Addr) (ob0 : HO) (ks ds : List D) (kd z : D) (k : NestedKey), FLe F H ∧ o = .ref p ∧ H p = some ob0 ∧ OwnObj K F p ob0 (.nd ks ds) ∧ Rp K F i kd ∧ nkey kd = some k ∧ ks.length ≤ sizeLine ∧ Rp K F v z ∧
  ∀ ob', OwnObj K F p ob' (.nd (ndPut ks ds kd k z).1 (ndPut ks ds kd k z).2) → Q (upd H p ob')
theorem set_nd (hu : X.A.units + 64 < cLine) : PSet X (rSetN X.K) := by
  intro pins s σ H o i v ov iv u Q I ro ri rv ⟨F, p, ob0, ks, ds, kd, z, k, fh, e, hp, ⟨ob, xs, vs, e0, c, rk, rs⟩, rp, ek, hz, rz, q⟩
  subst e e0
  obtain rfl : ov = Value.ref p := ro
  obtain ⟨a, rfl, rfl, hk⟩ := nkey_is I fh rp ek ri
  obtain ⟨h0, dd⟩ := nd_of I fh (.inl hp) c rk
  have hl : xs.length = ks.length := by
    have := congrArg List.length c.keys
    rw [List.length_map, List.length_map] at this
    exact this.symm
  refine wpAny_setItem_heap (knd := nestedKind X.prog X.w) (show X.A.in1.units + 8 < cLine by rw [Around.in1_units]; omega) hk dd (fun h' dd' sb => ?_) (by rw [hl]; exact hz)
  obtain ⟨ob', es, ep, h1, h2, h3, h4, h5, h6⟩ := dd'
  have own := nd_stored (ob' := ob') c rk rs ek rp rv rz h2 ⟨es, ep, h3, fun P w => ?_⟩
  · exact ⟨upd H p (AtO p ob'), d_write (t' := _) I (by rw [hp]; exact True.intro) sb ⟨ob', h1⟩ (ato_ok h1), q _ own⟩
  · rw [h4]
    exact stored_hash c.keys ek
end
end Dt

set_option Elab.async false
set_option linter.all false
set_option maxRecDepth 100000
set_option maxHeartbeats 4000000
/-! The judgements' rules for dicts with nested keys. -/
namespace Dt
open PySem PySem.Spec PyProof.Rows L2
section
variable {ex : Exx} {X : Cx} {W : WX} {a b c e o tg : Expr} {es : List Expr} {pos p : Pos} {sa sb sc : SO} {ea eb : SE} {sB : SB} {sA : SA} {x : Str} {id : String} {G : Gx}
def gInN : List D → Option D
  | [x, .nd ks ds] => (nkey x).map fun k => .bl (ndLook ks ds k).isSome
  | _ => none
def gNotInN : List D → Option D
  | [x, .nd ks ds] => (nkey x).map fun k => .bl (!(ndLook ks ds k).isSome)
  | _ => none
def gIdxN : List D → Option D
  | [.nd ks ds, y] => (nkey y).bind fun k => ndLook ks ds k
  | _ => none
theorem nkey_rp {K : PySem.W.Frag} {F H : Hp} {v : V} {d : D} {k : NestedKey} (h : Vw K F H v d) (e : nkey d = some k) : Rp K F v d := by
  rcases h with h | ⟨p, o, _, _, h⟩
  · exact h
  · obtain ⟨_, _, ds, rfl⟩ := nkey_some e
    exact h.elim
theorem psem_inN : PSem G (r2L (rInN G.K false)) gInN := fun F H vs ds d Q fh vw e q => by
  unfold gInN at e
  split at e
  · rename_i x ks ds
    obtain ⟨v, w, rfl, h1, h2⟩ := vw.two
    cases e1 : nkey x with
    | none => rw [e1] at e; cases e
    | some k =>
      rw [e1] at e
      cases e
      obtain ⟨p, rfl, hp⟩ := h2.nd fh
      exact ⟨v, _, rfl, F, p, ks, ds, x, k, fh, rfl, hp, nkey_rp h1 e1, e1, by simpa using fin_flat fh q (.bl _)⟩
  · cases e
theorem psem_notInN : PSem G (r2L (rInN G.K true)) gNotInN := fun F H vs ds d Q fh vw e q => by
  unfold gNotInN at e
  split at e
  · rename_i x ks ds
    obtain ⟨v, w, rfl, h1, h2⟩ := vw.two
    cases e1 : nkey x with
    | none => rw [e1] at e; cases e
    | some k =>
      rw [e1] at e
      cases e
      obtain ⟨p, rfl, hp⟩ := h2.nd fh
      exact ⟨v, _, rfl, F, p, ks, ds, x, k, fh, rfl, hp, nkey_rp h1 e1, e1, by simpa using fin_flat fh q (.bl _)⟩
  · cases e
theorem psem_idxN : PSem G (r2L (rIxN G.K)) gIdxN := fun F H vs ds d Q fh vw e q => by
  unfold gIdxN at e
  split at e
  · rename_i ks ds y
    obtain ⟨v, w, rfl, h1, h2⟩ := vw.two
    cases e1 : nkey y with
    | none => rw [e1] at e; cases e
    | some k =>
      rw [e1, Option.bind_some] at e
      obtain ⟨p, rfl, hp⟩ := h1.nd fh
      exact ⟨_, w, rfl, F, p, ks, ds, y, k, d, fh, rfl, hp, nkey_rp h2 e1, e1, e, fun v r => q v H F (New.refl fh) r⟩
  · cases e
theorem d_idxN (hu : At X W) (ha : DO (GK X ex) X W a sa) (hb : DO (GK X ex) X W b sb) (hs : PlainIx b := by intro _ _; rfl) : DE (GK X ex) X W (.Subscript a b pos) (sOps gIdxN (b2 sa sb)) :=
  wkE (pe_ix (ix_nd hu.un) ha hb hs) fun σ H Q h => two_ops (r := rIxN X.K) psem_idxN h
/-- {}: keys will be nested tuples -/
theorem d_ndF : DF (GK X ex) X W (.Dict [] [] pos) (sCst (.nd [] [])) := wkE (u := tF (GK X ex) W (sCst (.nd [] []))) (t := fun σ H Q => ∀ p ob, H p = none → (∀ K F, OwnObj K F p (AtO p ob) (.nd [] [])) → Q (.ref p) (upd H p (AtO p ob))) ⟨fun pins s σ H Q I h => by
  have hn : (s.heap.objs.size == sysModules) = false := beq_eq_false_iff_ne.mpr (Ne.symm (Nat.ne_of_lt I.big))
  have hg : (s.heap.push { cls := .type "dict", data := .dict #[] }).get? s.heap.objs.size = some { cls := .type "dict", data := .dict #[] } := Heap.get?_push_size _ rfl
  exact wpAny_Dict_empty ⟨.ref s.heap.objs.size, _, I.laid (a := s.heap.objs.size) (o := AtO s.heap.objs.size _) (t' := s.toks) (fun _ _ q => Heap.get?_push_of_some _ q) (Nat.le_refl _) (ato_ok hg), rfl,
    h _ _ (I.hok.fresh (Nat.le_refl _)) fun K F => ⟨_, [], [], rfl, ⟨hn, ⟨rfl, rfl, rfl⟩, ⟨#[], 0, rfl, fun _ _ => rfl⟩, List.nodup_nil, .nil, rfl⟩, .nil, .nil⟩⟩⟩
  fun σ H Q ⟨ρ, F, Rv, io, rel, q⟩ => fun p ob hp own => q p _ F (FLe.refl F) (rel.newH hp _) ⟨rel.fH.noneOf hp, rel.rH.noneOf hp, _, upd_same, own _ _⟩ (rel.loose hp)
/-- d[k] = v -/
def putN (d i z : D) : Option D := match d with
  | .nd ks ds => (nkey i).bind fun k => if ks.length ≤ sizeLine then some (.nd (ndPut ks ds i k z).1 (ndPut ks ds i k z).2) else none
  | _ => none
def gPutN (i : Nat) (sk : SO) : SG := fun z ρ => match held ρ i with
  | none => .stuck
  | some _ => (sk ρ).bind fun o ρ' => match held ρ' i, o.get ρ' with
    | some d, some k => match putN d k z with
      | some d' => .ok () (put ρ' i d')
      | none => .stuck
    | _, _ => .stuck
@[simp] theorem ev_gPutN (i : Nat) (sk : SO) (z : D) (ρ : Env) : gPutN i sk z ρ = match held ρ i with
  | none => .stuck
  | some _ => (sk ρ).bind fun o ρ' => match held ρ' i, o.get ρ' with
    | some d, some k => match putN d k z with
      | some d' => .ok () (put ρ' i d')
      | none => .stuck
    | _, _ => .stuck := rfl
theorem putN_set {F H : Hp} {d i z d' : D} {p : Addr} {ob : HO} {iv v : V} {Q : Hp → Prop} (fh : FLe F H) (hp : H p = some ob) (ho : OwnObj G.K F p ob d) (hi : Vw G.K F H iv i) (hv : Rp G.K F v z) (e : putN d i z = some d')
    (q : ∀ ob', OwnObj G.K F p ob' d' → Q (upd H p ob')) : rSetN G.K (.ref p) iv v H Q := by
  cases d with
  | nd ks ds =>
    simp only [putN] at e
    cases e2 : nkey i with
    | none => rw [e2] at e; cases e
    | some k =>
      rw [e2, Option.bind_some] at e
      split at e
      · rename_i hz
        cases e
        exact ⟨F, p, ob, ks, ds, i, z, k, fh, rfl, hp, ho, nkey_rp hi e2, e2, hz, hv, q⟩
      · cases e
  | _ => simp only [putN] at e; cases e
theorem d_gPutN {i : Nat} (hu : At X W) (ho : PE X o (tVar i)) (hi : DO (GK X ex) X W e sa)
    (ha : ∀ v, assign (.Subscript o e pos) X.env v = (do
      let ov ← holding [v] (eval o X.env)
      let iv ← holding [v, ov] (eval e X.env)
      standAt pos
      holding [v, ov, iv] (setItem ov iv v)
      release [v, ov, iv] []) := by intro _; rfl) : DG (GK X ex) X W [] (.Subscript o e pos) (gPutN i sa) :=
  wkG (pg_sub ho hi (set_nd hu.un) ha) fun v σ H Q ⟨z, ρ, F, Rv, io, rel, rp, q⟩ => by
    rw [ev_gPutN] at q
    cases e1 : held ρ i with
    | none => rw [e1] at q; exact q.elim
    | some d0 =>
      rw [e1] at q
      obtain ⟨p, ob, e2, e3, e4, _⟩ := put_own (G := GK X ex) (d' := d0) rel e1
      refine ⟨_, e2, ρ, F, Rv, io, rel, ?_⟩
      cases e5 : sa ρ with
      | stuck => rw [e5] at q; exact q.elim
      | exc x ρ' => rw [e5] at q; exact q
      | ok o' ρ' =>
        rw [e5] at q
        simp only [R.bind_ok] at q
        intro iv H' F' le rel' ok
        cases e6 : held ρ' i with
        | none => rw [e6] at q; exact q.elim
        | some d =>
          cases e7 : o'.get ρ' with
          | none => rw [e6, e7] at q; exact q.elim
          | some k =>
            rw [e6, e7] at q
            simp only at q
            cases e8 : putN d k z with
            | none => rw [e8] at q; exact q.elim
            | some d' =>
              rw [e8] at q
              obtain ⟨p', ob', e9, e10, e11, e12⟩ := put_own (G := GK X ex) (d' := d') rel' e6
              rw [e2] at e9
              cases e9
              exact putN_set (G := GK X ex) rel'.fH e10 e11 (rel'.view (G := GK X ex) ok e7) (rp.mono le) e8 fun ob2 h2 => q σ _ F' le (e12 ob2 h2) ⟨rfl, fun _ _ => rfl⟩
/-! ### for k in d -/
/-- the keys of the locked dict at d -/
def Itn (d : Addr) (o ob : Obj) (as : List Addr) : It :=
  ⟨fun i H => H d = some (.frz o (AtO d ob)) ∧ i < as.length, fun i H x H' => H' = H ∧ ∃ q, as[i]? = some q ∧ x = .ref q, fun i H => H d = some (.frz o (AtO d ob)) ∧ as.length ≤ i⟩
theorem frzN {pins : List (Addr × Obj)} {σ : L2.St} {H : Hp} {s : Shared} {d : Addr} {o ob : Obj} (I : Inv X pins σ H s) (h : H d = some (.frz o (AtO d ob))) : s.heap.get? d = some ob := by
  obtain ⟨_, z, _⟩ := I.hok d _ h
  exact z
theorem turn_keysN {P : Program} {w : World} {K : PySem.W.Frag} {d : Addr} {o ob : Obj} {es : Array DictEntry} {ep : Nat} {as : List Addr} (it : Addr) (hod : ob.data = .dict es ep) (hes : es.toList.map (·.key) = as.map Value.ref) :
    Turn P w K tg (Itn d o ob as) [it] it (fun i h => h.IsKeyIter it d i as.length ep) := by
  have hsz : es.size = as.length := by
    have := congrArg List.length hes
    rw [List.length_map, List.length_map, Array.length_toList] at this
    exact this
  refine ⟨by simp, fun i h st b hb => ?_, fun i h h' st k => st.at fun oi e => k it (by simp) oi e, ?_, ?_, fun A i s Q E st h => ?_⟩
  · obtain rfl : b = it := by simpa using hb
    obtain ⟨oi, e, c, dd⟩ := st
    exact ⟨oi, e, fun v z => by rw [dd] at z; cases z⟩
  · intro X hP hw hK hc i pins s σ H E I hf st hg; subst hP hw hK
    obtain ⟨hd, hi⟩ := hg
    obtain ⟨f0, f1, f2, f3, f4, f5⟩ := hf it (by simp)
    have hlt : i < es.size := by omega
    have hk : (es[i]'hlt).key = .ref as[i] := by
      have h1 : (es.toList.map (·.key))[i]? = some (es[i]'hlt).key := by rw [List.getElem?_map, Array.getElem?_toList, Array.getElem?_eq_getElem hlt]; rfl
      rw [hes, List.getElem?_map, List.getElem?_eq_getElem hi] at h1
      exact (Option.some.inj h1).symm
    refine next_key_item (en := es[i]'hlt) st (frzN I hd) hod hsz (Array.getElem?_eq_getElem hlt) fun h' st' sb => ?_
    have I1 : Inv X pins σ H { s with heap := h' } := I.turned (t' := s.toks) (fun b ob hb e => (sb.2 b hb).trans e) f0 f1 f3 f4 f5
    obtain ⟨oi, e, c, dd⟩ := id st'
    exact ⟨_, rfl, go_of (s := { s with heap := h' }) e c dd (by decide) ⟨.ref as[i], H, I1, hk, ⟨rfl, as[i], List.getElem?_eq_getElem hi, rfl⟩, st', fun b hb => (hf b hb).1⟩⟩
  · intro X hP hw hK hc i pins s σ H E I hf st hg; subst hP hw hK
    obtain ⟨hd, hi⟩ := hg
    obtain ⟨f0, f1, f2, f3, f4, f5⟩ := hf it (by simp)
    exact next_key_end (I.ok.hd hc) st (frzN I hd) hod hsz hi fun h' eb => ⟨rfl, I.turned (t' := s.toks) (fun b ob hb e => eb b ob hb e) f0 f1 f3 f4 f5⟩
  · refine wpAny_pyIter_slot st.typeIs F.slot_dict_keyiterator_iter (wpAny_call_entry F.slot_dict_keyiterator_iter st.typeIs F.entry_dict_keyiterator_iter ?_ (F.args_dict_keyiterator_iter_1 _))
    show wpAny _ _ (ret (.ref it)) _ _ s
    exact wpAny_pure ⟨_, rfl, "dict_keyiterator", _, st.typeIs, F.slot_dict_keyiterator_next.lookup, h⟩
def keysN : D → Option (List D)
  | .nd ks _ => some ks
  | _ => none
def iNd (s : SE) : SA := fun ρ => (s ρ).bind fun d ρ' => ofO (keysN d) ρ'
@[simp] theorem ev_iNd (s : SE) (ρ : Env) : iNd s ρ = (s ρ).bind fun d ρ' => ofO (keysN d) ρ' := rfl
theorem d_iNd (h : DE (GK X ex) X W e ea) : DI (GK X ex) X W tg e (iNd ea) := by
  refine wkI (t := fun σ H R => tE (GK X ex) W ea σ H fun x H1 => ∃ (a : Addr) (o ob : Obj) (xs : List (NestedKey × Addr × Value)) (ks : List D) (vs : List V), x = .ref a ∧ H1 a = some (.frz o (AtO a ob)) ∧ NdC a ob xs ks vs ∧ R (Itn a o ob (xs.map fun x => x.2.1)) H1) ⟨fun pins s σ H R I hh => ?_⟩ fun σ H Q ⟨ρ, F, Rv, io, rel, q⟩ => ?_
  · refine thn (h.run pins s σ H _ I hh) fun v s1 ⟨x, H1, I1, r1, a, o, ob, xs, ks, vs, ex, hd, c, q⟩ => ?_
    subst ex
    obtain rfl : v = Value.ref a := r1
    obtain ⟨es, ep, h2, h3⟩ := c.en
    have h4 := h3 X.prog X.w
    have hk : es.toList.map (·.key) = (xs.map fun x => x.2.1).map Value.ref := by rw [h4, List.map_map, List.map_map]; rfl
    have hsz : es.size = (xs.map fun x => x.2.1).length := by rw [← Array.length_toList, h4]; simp
    refine iter_keys c.ns (frzN I1 hd) c.ex h2 (pi_one (tk := s1.toks) I1 _ (turn_keysN _ h2 hk) ⟨_, Heap.get?_push_size _ rfl, rfl, ?_⟩ q)
    rw [hsz] <;> rfl
  · refine ⟨ρ, F, Rv, io, rel, ?_⟩
    rw [ev_iNd] at q
    cases e : ea ρ with
    | stuck => rw [e] at q; exact q.elim
    | exc x ρ' => rw [e] at q; exact q
    | ok d ρ' =>
      rw [e, R.bind_ok] at q
      intro v H' F' le rel' rp
      cases rp with
      | @nd a o ob xs vs ks ds t c r1 r2 =>
        refine ⟨a, o, ob, xs, ks, vs, rfl, rel'.fH _ _ t, c, q _ H' F' le rel' ?_⟩
        have hl := r1.length
        rw [List.length_map] at hl
        refine ⟨fun i F1 H h1 h2 hi => ⟨h2 _ _ (h1 _ _ t), by rw [List.length_map, hl]; exact hi⟩, fun F1 H h1 h2 => ⟨h2 _ _ (h1 _ _ t), by rw [List.length_map, hl]; exact Nat.le_refl _⟩, fun i F1 H H' x d h1 h2 e y => ?_⟩
        obtain ⟨e1, q', e2, rfl⟩ := y
        rw [e1]
        obtain ⟨v, e3, r3⟩ := r1.get e
        rw [List.getElem?_map] at e2 e3
        cases e4 : xs[i]? with
        | none => rw [e4] at e2; cases e2
        | some z =>
          rw [e4] at e2 e3
          cases e2
          cases e3
          exact ⟨F1, New.refl h2, r3.mono h1⟩
      | _ => exact q.elim
end
end Dt

set_option Elab.async false
set_option linter.all false
set_option maxRecDepth 100000
set_option maxHeartbeats 4000000
/-! zip and enumerate of lists and tuples alike. -/
namespace Dt
open PySem PySem.Spec PyProof.Rows L2
/-- a tuple (true) or a list (false) -/
def SqK (K : PySem.W.Frag) : Bool → Hp → Addr → List V → Prop
  | true => SqT K
  | false => SqL K
def ItKd : Bool → Heap → Addr → Addr → Nat → Prop
  | true => fun h it a i => h.IsTupleIter it a i
  | false => fun h it a i => h.IsListIter it a i
def IsSq : Bool → Heap → Addr → Array Value → Prop
  | true => fun h a items => h.IsTuple a items
  | false => fun h a items => h.IsList a items
def itObj : Bool → Addr → Obj
  | true => fun a => { cls := .type "tuple_iterator", data := .fields #[.ref a, .int 0 0] }
  | false => fun a => { cls := .type "list_iterator", data := .fields #[.ref a, .int 0 0] }
theorem draws_sq {prog : Program} {w : World} {A : Around} (k : Bool) (hh : A.handled = none) (it a : Addr) (hne : a ≠ it) (items : Array Value) :
    Draws prog w A it [it, a] items.size (fun i v => items[i]? = some v) (fun i h => ItKd k h it a i ∧ IsSq k h a items) := by
  cases k
  · exact Draws.list hh it a hne items
  · exact Draws.tuple hh it a hne items
theorem begins_sq (k : Bool) (a : Addr) (items : Array Value) : Begins (.ref a) (itObj k a) fun h => IsSq k h a items := by
  cases k
  · exact begins_list a items
  · exact begins_tuple a items
theorem itKd_new {k : Bool} {h : Heap} {it a : Addr} (e : h.get? it = some (itObj k a)) : ItKd k h it a 0 := by
  cases k
  · exact ⟨_, e, rfl, rfl⟩
  · exact ⟨_, e, rfl, rfl⟩
theorem itKd_obj {k : Bool} {h : Heap} {it a : Addr} {i : Nat} (e : ItKd k h it a i) : ∃ o, h.get? it = some o ∧ ∀ v, o.data ≠ .cell v := by
  cases k
  · obtain ⟨o, e1, _, d⟩ := e
    exact ⟨o, e1, fun v q => by rw [d] at q; cases q⟩
  · obtain ⟨o, e1, _, d⟩ := e
    exact ⟨o, e1, fun v q => by rw [d] at q; cases q⟩
theorem itKd_at {k : Bool} {h h' : Heap} {it a : Addr} {i : Nat} (e : ItKd k h it a i) (q : ∀ o, h.get? it = some o → h'.get? it = some o) : ItKd k h' it a i := by
  cases k
  · exact Heap.IsListIter.at e q
  · exact Heap.IsTupleIter.at e q
theorem sq_get {X : Cx} {pins : List (Addr × Obj)} {σ : L2.St} {H : Hp} {s : Shared} {k : Bool} {a : Addr} {xs : List V} (I : Inv X pins σ H s) (h : SqK X.K k H a xs) : ∃ its : List Value, Vals xs its ∧ IsSq k s.heap a its.toArray ∧ a < s.heap.objs.size := by
  cases k
  · obtain ⟨its, rv, p, _⟩ := I.list h
    exact ⟨its, rv, p.isList, p.lt⟩
  · obtain ⟨its, rv, p, _⟩ := I.tuple h
    obtain ⟨o, ho, _⟩ := id p
    exact ⟨its, rv, (show s.heap.IsTuple a its.toArray from p), Heap.lt_size ho⟩
theorem sq_inj {X : Cx} {pins : List (Addr × Obj)} {σ : L2.St} {H : Hp} {s : Shared} {k : Bool} {a : Addr} {xs ys : List V} (I : Inv X pins σ H s) (h : SqK X.K k H a xs) (h' : SqK X.K k H a ys) : xs = ys := by
  cases k
  · exact I.list_inj h h'
  · exact I.tuple_inj h h'
/-- one turn of an iterator that hands out its own tuple -/
theorem turn_item {X : Cx} {elts : List Expr} {kk : Nat} {tpos : Pos} {it : Addr} {fp fpw wr : List Addr} {n i : Nat} {Pt : Nat → Array Value → Prop} {St : Nat → Heap → Prop} {Mid : Nat → Addr → Heap → Prop} {pins : List (Addr × Obj)} {s : Shared} {σ : L2.St} {H : Hp} {E : Value → Shared → Prop} {Y : V → Hp → Prop} {tn : Heap → Prop}
    (T : WalksT X.prog X.w X.A it fpw wr n Pt St Mid) (I : Inv X pins σ H s) (hf : ∀ b ∈ fp, FpOk X pins H b) (hi : i < n) (st : St i s.heap) (hw : ∀ b ∈ wr, b ∈ fp) (old : ∀ b ∈ fp, b < s.heap.objs.size)
    (hv : ∀ vals, Pt i vals → ∃ xs : List V, Vals xs vals.toList ∧ xs.length ≤ sizeLine ∧ ∀ T, H T = none → Y (.ref T) (upd H T (.tup xs))) (ht : ∀ h', St (i + 1) h' → tn h') :
    wpAny (model X.prog X.w) X.A (pyNext (.ref it)) (fun r s1 => ∃ u, r = some u ∧
      wpAny (model X.prog X.w) X.A (letOwnedTupleGo (.Tuple elts kk tpos) (.ref it) u) (fun _ s2 => ∃ x H', Inv X pins σ H' s2 ∧ RelV x u ∧ Y x H' ∧ tn s2.heap ∧ ∀ b ∈ fp, H' b = none) E s1) E s := by
  refine T.item i s _ E hi st fun Ta vals h' tk hP hT hI hM hk => ⟨_, rfl, T.go elts kk tpos i Ta { s with heap := h', toks := tk } _ E hM fun h'' st2 hk2 => ?_⟩
  obtain ⟨xs, rv, hl, hy⟩ := hv vals hP
  have nT : H Ta = none := I.hok.fresh hT
  obtain ⟨o, e1, e2, m, e3⟩ := hI
  have nw : Ta ∉ wr := T.apart i Ta h' hM
  have new : ObjOk X.prog X.w (upd H Ta (.tup xs)) h'' Ta (.tup xs) := ⟨hl, vals.toList, rv, o, hk2 Ta o nw e1, e2, m, by rw [Array.toArray_toList]; exact e3⟩
  exact ⟨.ref Ta, _, I.turnedNew (t' := tk) (ch := fp) (fun b o hb q => hk2 b o (fun z => hb (hw b z)) (hk b o (fun z => hb (hw b z)) q)) hf hT new, rfl, hy Ta nT, ht h'' st2,
    fun b hb => by rw [upd_ne (Nat.ne_of_lt (Nat.lt_of_lt_of_le (old b hb) hT))]; exact (hf b hb).1⟩
theorem turn_done {X : Cx} {it : Addr} {fp fpw wr : List Addr} {n : Nat} {Pt : Nat → Array Value → Prop} {St : Nat → Heap → Prop} {Mid : Nat → Addr → Heap → Prop} {pins : List (Addr × Obj)} {s : Shared} {σ : L2.St} {H : Hp} {E : Value → Shared → Prop}
    (T : WalksT X.prog X.w X.A it fpw wr n Pt St Mid) (I : Inv X pins σ H s) (hf : ∀ b ∈ fp, FpOk X pins H b) (st : St n s.heap) (hw : ∀ b ∈ wr, b ∈ fp) : wpAny (model X.prog X.w) X.A (pyNext (.ref it)) (fun r s1 => r = none ∧ Inv X pins σ H s1) E s :=
  T.done s _ E st fun h' tk hk => ⟨rfl, I.turnedL (t' := tk) (ch := fp) (fun b o hb q => hk b o (fun z => hb (hw b z)) q) hf⟩
/-! ### zip -/
def Itzz (K : PySem.W.Frag) (k1 k2 : Bool) (a b : Addr) : It :=
  ⟨fun i H => ∃ (xs ys : List V), SqK K k1 H a xs ∧ SqK K k2 H b ys ∧ i < min xs.length ys.length,
    fun i H v H' => ∃ T x y, v = .ref T ∧ H T = none ∧ H' = upd H T (.tup [x, y]) ∧ (∀ xs, SqK K k1 H a xs → xs[i]? = some x) ∧ ∀ ys, SqK K k2 H b ys → ys[i]? = some y,
    fun i H => ∃ xs ys : List V, SqK K k1 H a xs ∧ SqK K k2 H b ys ∧ i = min xs.length ys.length⟩
theorem vals_at {xs : List V} {its : List Value} {i : Nat} {u : Value} (r : Vals xs its) (e : its.toArray[i]? = some u) : ∃ x, xs[i]? = some x ∧ RelV x u := by
  have e : its[i]? = some u := by simpa using e
  have hl := r.length
  have hi : i < its.length := (List.getElem?_eq_some_iff.mp e).1
  obtain ⟨u', e1, rr⟩ := r.get (x := xs[i]'(by omega)) (i := i) (by simp [show i < xs.length by omega])
  rw [e] at e1
  cases e1
  exact ⟨_, by simp [show i < xs.length by omega], rr⟩
theorem turn_zz {P : Program} {w : World} {K : PySem.W.Frag} {elts : List Expr} {kk : Nat} {tpos : Pos} {a b N : Addr} (k1 k2 : Bool) (ha : a < N) (hb : b < N) :
    Turn P w K (.Tuple elts kk tpos) (Itzz K k1 k2 a b) [N + 4, N + 2, N + 3, N, N + 1] (N + 4) (fun i h => IsZip h (N + 4) (N + 2) (N + 3) .none ∧ IsTupOf2 h (N + 2) (.ref N) (.ref (N + 1)) ∧ (∃ x y, IsTupOf2 h (N + 3) x y) ∧ ItKd k1 h N a i ∧ ItKd k2 h (N + 1) b i) := by
  have S : ZipSep2 (N + 4) (N + 2) (N + 3) N (N + 1) [N, a] [N + 1, b] := zip_sep2 (fun c hc => by rw [List.mem_singleton.mp hc]; exact ha) fun c hc => by rw [List.mem_singleton.mp hc]; exact hb
  have nea : a ≠ N := Nat.ne_of_lt ha
  have neb : b ≠ N + 1 := Nat.ne_of_lt (Nat.lt_succ_of_lt hb)
  have hw : ∀ c ∈ [N + 4, N + 3, N, N + 1], c ∈ [N + 4, N + 2, N + 3, N, N + 1] := fun c hc => by
    have : c = N + 4 ∨ c = N + 3 ∨ c = N ∨ c = N + 1 := by simpa using hc
    rcases this with rfl | rfl | rfl | rfl <;> simp
  have ob : ∀ i h, (IsZip h (N + 4) (N + 2) (N + 3) .none ∧ IsTupOf2 h (N + 2) (.ref N) (.ref (N + 1)) ∧ (∃ x y, IsTupOf2 h (N + 3) x y) ∧ ItKd k1 h N a i ∧ ItKd k2 h (N + 1) b i) → ∀ c ∈ [N + 4, N + 2, N + 3, N, N + 1], ∃ o, h.get? c = some o ∧ ∀ v, o.data ≠ .cell v := fun i h st c hc => by
    obtain ⟨hz, hT, ⟨x, y, hO⟩, h1, h2⟩ := st
    have : c = N + 4 ∨ c = N + 2 ∨ c = N + 3 ∨ c = N ∨ c = N + 1 := by simpa using hc
    rcases this with rfl | rfl | rfl | rfl | rfl
    · exact ⟨_, hz, fun v q => nomatch q⟩
    · exact ⟨_, hT, fun v q => nomatch q⟩
    · exact ⟨_, hO, fun v q => nomatch q⟩
    · exact itKd_obj h1
    · exact itKd_obj h2
  refine ⟨by simp, ob, fun i h h' st k => ?_, ?_, ?_, fun A i s Q E st h => wpAny_pyIter_zip st.1 h⟩
  · obtain ⟨hz, hT, ⟨x, y, hO⟩, h1, h2⟩ := st
    exact ⟨k _ (by simp) _ hz, k _ (by simp) _ hT, ⟨x, y, k _ (by simp) _ hO⟩, itKd_at h1 fun o q => k N (by simp) o q, itKd_at h2 fun o q => k (N + 1) (by simp) o q⟩
  · intro X hP hW hK hc i pins s σ H E I hf st hg; subst hP hW hK
    obtain ⟨xs, ys, hx, hy, hi⟩ := hg
    obtain ⟨its, rv, p1, _⟩ := sq_get I hx
    obtain ⟨its2, rv2, p2, _⟩ := sq_get I hy
    have l1 := rv.length
    have l2 := rv2.length
    have D := WalksT.zipD2 S (draws_sq (prog := X.prog) (w := X.w) (A := X.A.in1) k1 (I.ok.hd hc) N a nea its.toArray) (draws_sq (A := X.A.in1) k2 (I.ok.hd hc) (N + 1) b neb its2.toArray)
    have old : ∀ c ∈ [N + 4, N + 2, N + 3, N, N + 1], c < s.heap.objs.size := fun c hc => let ⟨o, e, _⟩ := ob i _ st c hc; Heap.lt_size e
    obtain ⟨hz, hT, hO, h1, h2⟩ := st
    refine turn_item (Y := (Itzz X.K k1 k2 a b).yld i H) (tn := fun h => IsZip h (N + 4) (N + 2) (N + 3) .none ∧ IsTupOf2 h (N + 2) (.ref N) (.ref (N + 1)) ∧ (∃ x y, IsTupOf2 h (N + 3) x y) ∧ ItKd k1 h N a (i + 1) ∧ ItKd k2 h (N + 1) b (i + 1)) D I hf (by simp; omega) ⟨hz, hT, hO, ⟨h1, p1⟩, ⟨h2, p2⟩⟩ hw old (fun vals hv => ?_) fun h' st' => ⟨st'.1, st'.2.1, st'.2.2.1, st'.2.2.2.1.1, st'.2.2.2.2.1⟩
    obtain ⟨u1, u2, e1, e2, rfl⟩ := hv
    obtain ⟨x, ex, rx⟩ := vals_at rv e1
    obtain ⟨y, ey, ry⟩ := vals_at rv2 e2
    exact ⟨[x, y], .cons rx (.cons ry .nil), by show 2 ≤ sizeLine; decide, fun T hT => ⟨T, x, y, rfl, hT, rfl, fun l hl => by rw [sq_inj I hl hx]; exact ex, fun l hl => by rw [sq_inj I hl hy]; exact ey⟩⟩
  · intro X hP hW hK hc i pins s σ H E I hf st hg; subst hP hW hK
    obtain ⟨xs, ys, hx, hy, hi⟩ := hg
    obtain ⟨its, rv, p1, _⟩ := sq_get I hx
    obtain ⟨its2, rv2, p2, _⟩ := sq_get I hy
    have l1 := rv.length
    have l2 := rv2.length
    have D := WalksT.zipD2 S (draws_sq (prog := X.prog) (w := X.w) (A := X.A.in1) k1 (I.ok.hd hc) N a nea its.toArray) (draws_sq (A := X.A.in1) k2 (I.ok.hd hc) (N + 1) b neb its2.toArray)
    obtain ⟨hz, hT, hO, h1, h2⟩ := st
    have e : i = min its.toArray.size its2.toArray.size := by simp; omega
    exact turn_done D I hf ⟨hz, hT, hO, ⟨by rw [← e]; exact h1, p1⟩, ⟨by rw [← e]; exact h2, p2⟩⟩ hw
def iZipG (K : PySem.W.Frag) (ta : TA) : TI := fun σ H R => ta σ H fun vs H1 => ∃ k1 k2 a b xs ys, vs = [.ref a, .ref b] ∧ SqK K k1 H1 a xs ∧ SqK K k2 H1 b ys ∧ R (Itzz K k1 k2 a b) H1
theorem pi_zz {X : Cx} {e e2 : Expr} {ta : TA} {p pos tpos : Pos} {elts : List Expr} {kk : Nat} (hg : Gl X "zip") (hm : X.mg "zip" = none) (ha : PA X [e, e2] ta)
    (hs : starEach [e, e2] X.env = (false, eval e X.env) :: starEach [e2] X.env := by rfl) (hpl : (backTo pos (starEach [e2] X.env)).any (·.1) = false := by rfl) :
    PI X (.Tuple elts kk tpos) (.Call (.Name "zip" p) [e, e2] [] pos) (iZipG X.K ta) := by
  refine ⟨fun pins s σ H R I h => Call_ (ld_blt I hg hm boot_zip (callWith_type1 (thn (ha.run pos pins s σ H _ I h) fun us s1 ⟨vs, H1, I1, r1, k1, k2, a, b, xs, ys, ex, hx, hy, q1⟩ => ?_) hs hpl))⟩
  subst ex
  cases r1 with
  | cons r rr =>
    cases rr with
    | cons r' rr =>
      cases rr; cases r; cases r'
      obtain ⟨its, rv, p1, la⟩ := sq_get I1 hx
      obtain ⟨its2, rv2, p2, lb⟩ := sq_get I1 hy
      refine zip_begins2 (begins_sq k1 a its.toArray) (begins_sq k2 b its2.toArray) p1 p2 fun h' hz hTI hTO h1 h2 hsz hk => wpAny_pyIter_zip hz ?_
      refine ⟨_, _, _, _, H1, rfl, I1.kept (t' := s1.toks) hk, turn_zz k1 k2 la lb, ⟨hz, hTI, ⟨_, _, hTO⟩, itKd_new h1, itKd_new h2⟩, fun c hcm => ?_, q1⟩
      have : c = s1.heap.objs.size + 4 ∨ c = s1.heap.objs.size + 2 ∨ c = s1.heap.objs.size + 3 ∨ c = s1.heap.objs.size ∨ c = s1.heap.objs.size + 1 := by simpa using hcm
      have hle : s1.heap.objs.size ≤ c := by
        rcases this with rfl | rfl | rfl | rfl | rfl <;> first | exact Nat.le_add_right _ _ | exact Nat.le_refl _
      exact I1.fpOk hle (I1.hok.fresh hle)
/-- the parts of a list or a tuple -/
def seqD : D → Option (List D)
  | .lst xs => some xs
  | .tup xs => some xs
  | .arg xs => some xs
  | _ => none
theorem seqD_sq {K : PySem.W.Frag} {F : Hp} {v : V} {d : D} {xs : List D} (h : Rp K F v d) (e : seqD d = some xs) : ∃ k a vs, v = .ref a ∧ SqK K k F a vs ∧ Rps K F vs xs := by
  cases h with
  | tup t r => cases e; exact ⟨true, _, _, rfl, t.sq, r⟩
  | arg t r => cases e; exact ⟨true, _, _, rfl, t, r⟩
  | lst t r => cases e; exact ⟨false, _, _, rfl, SqL.of t, r⟩
  | _ => cases e
theorem FLe.sqK {K : PySem.W.Frag} {F G : Hp} (h : FLe F G) {k : Bool} {a : Addr} {xs : List V} (r : SqK K k F a xs) : SqK K k G a xs := by
  cases k
  · exact h.sqL r
  · exact h.sqT r
theorem iter_zz {K : PySem.W.Frag} {F : Hp} {k1 k2 : Bool} {a b : Addr} {vs ws : List V} {xs ys : List D} (ha : SqK K k1 F a vs) (hb : SqK K k2 F b ws) (rx : Rps K F vs xs) (ry : Rps K F ws ys) : IterOk K (Itzz K k1 k2 a b) F (pairUp xs ys) := by
  have at1 : ∀ {F1 H : Hp}, FLe F F1 → FLe F1 H → SqK K k1 H a vs := fun h1 h2 => h2.sqK (h1.sqK ha)
  have at2 : ∀ {F1 H : Hp}, FLe F F1 → FLe F1 H → SqK K k2 H b ws := fun h1 h2 => h2.sqK (h1.sqK hb)
  have lx := rx.length
  have ly := ry.length
  have lp : (pairUp xs ys).length = min xs.length ys.length := by unfold pairUp; rw [List.length_zipWith]
  refine ⟨fun i F1 H h1 h2 hi => ⟨vs, ws, at1 h1 h2, at2 h1 h2, by rw [lx, ly, ← lp]; exact hi⟩, fun F1 H h1 h2 => ⟨vs, ws, at1 h1 h2, at2 h1 h2, by rw [lx, ly, ← lp]⟩, fun i F1 H H' x d h1 h2 e y => ?_⟩
  obtain ⟨T, v, w, rfl, hT, rfl, g1, g2⟩ := y
  unfold pairUp at e
  rw [List.getElem?_zipWith] at e
  cases ex : xs[i]? with
  | none => rw [ex] at e; cases e
  | some dx =>
    cases ey : ys[i]? with
    | none => rw [ex, ey] at e; cases e
    | some dy =>
      rw [ex, ey] at e
      cases e
      obtain ⟨v', e1, r1⟩ := rx.get ex
      obtain ⟨w', e2, r2⟩ := ry.get ey
      have e3 := g1 vs (at1 h1 h2)
      have e4 := g2 ws (at2 h1 h2)
      rw [e1] at e3; cases e3
      rw [e2] at e4; cases e4
      have n := New.obj h2 hT (.tup [v, w])
      exact ⟨_, n, .arg (.inl (.inl upd_same)) (.cons (r1.mono (h1.trans n.f)) (.cons (r2.mono (h1.trans n.f)) .nil))⟩
def zipG : List D → Option (List D)
  | [x, y] => (seqD x).bind fun xs => (seqD y).map fun ys => pairUp xs ys
  | _ => none
def iZipX (s : SA) : SA := fun ρ => (s ρ).bind fun ds ρ' => ofO (zipG ds) ρ'
@[simp] theorem ev_iZipX (s : SA) (ρ : Env) : iZipX s ρ = (s ρ).bind fun ds ρ' => ofO (zipG ds) ρ' := rfl
section
variable {ex : Exx} {X : Cx} {W : WX} {e : Expr} {p pos : Pos} {sA : SA}
theorem d_iZipX {e2 : Expr} {elts : List Expr} {kk : Nat} {tpos : Pos} (hg : Gl X "zip") (hm : X.mg "zip" = none) (ha : DA (GK X ex) X W [e, e2] sA) (hs : starEach [e, e2] X.env = (false, eval e X.env) :: starEach [e2] X.env := by rfl) (hpl : (backTo pos (starEach [e2] X.env)).any (·.1) = false := by rfl) :
    DI (GK X ex) X W (.Tuple elts kk tpos) (.Call (.Name "zip" p) [e, e2] [] pos) (iZipX sA) :=
  wkI (pi_zz hg hm ha hs hpl) fun σ H Q ⟨ρ, F, Rv, io, rel, q⟩ => by
    refine ⟨ρ, F, Rv, io, rel, ?_⟩
    rw [ev_iZipX] at q
    cases e1 : sA ρ with
    | stuck => rw [e1] at q; exact q.elim
    | exc x ρ' => rw [e1] at q; exact q
    | ok ds ρ' =>
      rw [e1, R.bind_ok] at q
      intro vs H' F' le rel' rs
      cases e3 : zipG ds with
      | none => rw [e3] at q; exact q.elim
      | some zs =>
        rw [e3] at q
        unfold zipG at e3
        split at e3
        · rename_i x y
          cases ea : seqD x with
          | none => rw [ea] at e3; cases e3
          | some xs =>
            cases eb : seqD y with
            | none => rw [ea, eb] at e3; cases e3
            | some ys =>
              rw [ea, eb] at e3
              cases e3
              cases rs with
              | cons r1 rs =>
                cases rs with
                | cons r2 rs =>
                  cases rs
                  obtain ⟨k1, a, us, rfl, s1, q1⟩ := seqD_sq r1 ea
                  obtain ⟨k2, b, ws, rfl, s2, q2⟩ := seqD_sq r2 eb
                  exact ⟨k1, k2, a, b, us, ws, rfl, rel'.fH.sqK s1, rel'.fH.sqK s2, q _ H' F' le rel' (iter_zz s1 s2 q1 q2)⟩
        · cases e3
end
end Dt

set_option Elab.async false
set_option linter.all false
set_option maxRecDepth 100000
set_option maxHeartbeats 4000000
/-! enumerate of lists and tuples alike; range with a step below; max of a list; order of data; two new lists at once; while without a bound. -/
namespace Dt
open PySem PySem.Spec PyProof.Rows L2
/-! ### enumerate -/
theorem enum_new1 {v : Value} {o : Obj} {H : Heap → Prop} (B : Begins v o H) :
    Meets (Builtin.«enumerate.__new__» ⟨[.type "enumerate", v], []⟩) (fun _ R s => H s.heap ∧ R (.ok (.ret (.ref (s.heap.push o).objs.size)))
        { s with heap := (s.heap.push o).push { cls := .type "enumerate", data := .fields #[.none, .bool false, .ref s.heap.objs.size, rawInt 0, .none, .none] } }) :=
  .of_wp fun prog w A R s h => by
    obtain ⟨hp, g, d, tk, os⟩ := s
    obtain ⟨h1, h⟩ := h
    have hs := sub_enumerate
    have q1 : ∀ {A' : Around} {E : Value → Shared → Prop} {Q : Value → Shared → Prop}, Q (.ref hp.objs.size) ⟨hp.push o, g, d, tk, os⟩ → wpAny (model prog w) A' (pyIter v) Q E ⟨hp, g, d, tk, os⟩ := fun q => B.iter prog w _ _ ⟨hp, g, d, tk, os⟩ _ h1 q
    wp_walk using q1
    refine wpAny_stack_any fun st => wpAny_pure ?_
    split
    · rename_i c _ _ _ _ _
      cases (c == Value.type "enumerate") <;> (wp_walk using q1; exact ⟨_, rfl, h⟩)
    · wp_walk using q1
      exact ⟨_, rfl, h⟩
theorem call_enum1 {prog : Program} {w : World} {A : Around} {E : Value → Shared → Prop} {s : Shared} {v : Value} {o : Obj} {H : Heap → Prop} {Q : Value → Shared → Prop} (B : Begins v o H) (h1 : H s.heap)
    (h : ∀ h', IsEnum h' (s.heap.objs.size + 1) s.heap.objs.size 0 .none → h'.get? s.heap.objs.size = some o → (∀ b o, s.heap.get? b = some o → h'.get? b = some o) → Q (.ref (s.heap.objs.size + 1)) { s with heap := h' }) :
    wpAny (model prog w) A (call (.type "enumerate") [v]) Q E s := by
  refine callType_new F.called_enumerate (by decide) (F.typeCall_enumerate_1 _) (F.newCall_enumerate_1 _) (fun obj => F.args_object_init_2 obj _) F.entry_enumerate_new (enum_new1 B) ⟨h1, ?_⟩
  have hz : (s.heap.push o).objs.size = s.heap.objs.size + 1 := Heap.size_push ..
  show _ ∧ _
  rw [hz]
  have he := Heap.get?_push_size (s.heap.push o) (o := { cls := .type "enumerate", data := .fields #[.none, .bool false, .ref s.heap.objs.size, rawInt 0, .none, .none] }) rfl
  rw [hz] at he
  exact ⟨⟨_, he, rfl⟩, h _ he (Heap.get?_push_of_some _ (Heap.get?_push_size _ B.free)) fun b o x => Heap.get?_push_of_some _ (Heap.get?_push_of_some _ x)⟩
def Iten (K : PySem.W.Frag) (k : Bool) (a : Addr) : It :=
  ⟨fun i H => ∃ xs : List V, SqK K k H a xs ∧ i < xs.length, fun i H v H' => ∃ T x, v = .ref T ∧ H T = none ∧ H' = upd H T (.tup [.int (i : Nat), x]) ∧ ∀ xs, SqK K k H a xs → xs[i]? = some x, fun i H => ∃ xs : List V, SqK K k H a xs ∧ i = xs.length⟩
theorem turn_en {P : Program} {w : World} {K : PySem.W.Frag} {elts : List Expr} {kk : Nat} {tpos : Pos} {a N : Addr} (k : Bool) (ha : a < N) :
    Turn P w K (.Tuple elts kk tpos) (Iten K k a) [N + 1, N] (N + 1) (fun i h => (∃ old, IsEnum h (N + 1) N ((i : Nat) : Int) old) ∧ ItKd k h N a i) := by
  have nea : a ≠ N := Nat.ne_of_lt ha
  have hei : N + 1 ≠ N := Nat.succ_ne_self N
  have hef : N + 1 ∉ [N, a] := by
    intro z
    have : N + 1 = N ∨ N + 1 = a := by simpa using z
    rcases this with z | z
    · exact hei z
    · exact Nat.lt_irrefl N (Nat.lt_trans (Nat.lt_of_lt_of_eq (Nat.lt_succ_self N) z) ha)
  have hw : ∀ c ∈ [N + 1, N], c ∈ [N + 1, N] := fun c hc => hc
  have ob : ∀ i h, ((∃ old, IsEnum h (N + 1) N ((i : Nat) : Int) old) ∧ ItKd k h N a i) → ∀ c ∈ [N + 1, N], ∃ o, h.get? c = some o ∧ ∀ v, o.data ≠ .cell v := fun i h st c hc => by
    obtain ⟨⟨old, he⟩, h1⟩ := st
    have : c = N + 1 ∨ c = N := by simpa using hc
    rcases this with rfl | rfl
    · exact ⟨_, he, fun v q => nomatch q⟩
    · exact itKd_obj h1
  refine ⟨by simp, ob, fun i h h' st q => ?_, ?_, ?_, fun A i s Q E st h => let ⟨⟨_, he⟩, _⟩ := st; wpAny_pyIter_enum he h⟩
  · obtain ⟨⟨old, he⟩, h1⟩ := st
    exact ⟨⟨old, q _ (by simp) _ he⟩, itKd_at h1 fun o e => q N (by simp) o e⟩
  · intro X hP hW hK hc i pins s σ H E I hf st hg; subst hP hW hK
    obtain ⟨xs, hx, hi⟩ := hg
    obtain ⟨its, rv, p1, _⟩ := sq_get I hx
    have l1 := rv.length
    have D := WalksT.enumerateD (draws_sq (prog := X.prog) (w := X.w) (A := X.A.in1) k (I.ok.hd hc) N a nea its.toArray) (N + 1) hei hef (by simp)
    have old : ∀ c ∈ [N + 1, N], c < s.heap.objs.size := fun c hc => let ⟨o, e, _⟩ := ob i _ st c hc; Heap.lt_size e
    obtain ⟨he, h1⟩ := st
    refine turn_item (Y := (Iten X.K k a).yld i H) (tn := fun h => (∃ old, IsEnum h (N + 1) N ((i + 1 : Nat) : Int) old) ∧ ItKd k h N a (i + 1)) D I hf (by simp; omega) ⟨he, h1, p1⟩ hw old (fun vals hv => ?_) fun h' st' => ⟨st'.1, st'.2.1⟩
    obtain ⟨t, u, e1, rfl⟩ := hv
    obtain ⟨x, ex, rx⟩ := vals_at rv e1
    exact ⟨[.int (i : Nat), x], .cons ⟨_, rfl⟩ (.cons rx .nil), by show 2 ≤ sizeLine; decide, fun T hT => ⟨T, x, rfl, hT, rfl, fun l hl => by rw [sq_inj I hl hx]; exact ex⟩⟩
  · intro X hP hW hK hc i pins s σ H E I hf st hg; subst hP hW hK
    obtain ⟨xs, hx, hi⟩ := hg
    obtain ⟨its, rv, p1, _⟩ := sq_get I hx
    have l1 := rv.length
    have D := WalksT.enumerateD (draws_sq (prog := X.prog) (w := X.w) (A := X.A.in1) k (I.ok.hd hc) N a nea its.toArray) (N + 1) hei hef (by simp)
    obtain ⟨he, h1⟩ := st
    have e : i = its.toArray.size := by simp; omega
    exact turn_done D I hf ⟨by rw [← e]; exact he, by rw [← e]; exact h1, p1⟩ hw
def iEnumG (K : PySem.W.Frag) (ta : TA) : TI := fun σ H R => ta σ H fun vs H1 => ∃ k a xs, vs = [.ref a] ∧ SqK K k H1 a xs ∧ R (Iten K k a) H1
theorem pi_en {X : Cx} {e : Expr} {ta : TA} {p pos tpos : Pos} {elts : List Expr} {kk : Nat} (hg : Gl X "enumerate") (hm : X.mg "enumerate" = none) (ha : PA X [e] ta) (hs : starEach [e] X.env = [(false, eval e X.env)] := by rfl) :
    PI X (.Tuple elts kk tpos) (.Call (.Name "enumerate" p) [e] [] pos) (iEnumG X.K ta) := by
  refine ⟨fun pins s σ H R I h => Call_ (ld_blt I hg hm boot_enumerate (callWith_type1 (thn (ha.run pos pins s σ H _ I h) fun us s1 ⟨vs, H1, I1, r1, k, a, xs, ex, hx, q1⟩ => ?_) hs rfl))⟩
  subst ex
  cases r1 with
  | cons r rr =>
    cases rr; cases r
    obtain ⟨its, rv, p1, la⟩ := sq_get I1 hx
    refine call_enum1 (begins_sq k a its.toArray) p1 fun h' he hi hk => wpAny_pyIter_enum he ?_
    refine ⟨_, _, _, _, H1, rfl, I1.kept (t' := s1.toks) hk, turn_en k la, ⟨⟨.none, he⟩, itKd_new hi⟩, fun c hcm => ?_, q1⟩
    have : c = s1.heap.objs.size + 1 ∨ c = s1.heap.objs.size := by simpa using hcm
    have hle : s1.heap.objs.size ≤ c := by
      rcases this with rfl | rfl <;> first | exact Nat.le_add_right _ _ | exact Nat.le_refl _
    exact I1.fpOk hle (I1.hok.fresh hle)
def numbered : Nat → List D → List D
  | _, [] => []
  | n, d :: ds => .arg [.int (n : Nat), d] :: numbered (n + 1) ds
theorem numbered_get : ∀ {n i : Nat} {ds : List D} {d : D}, (numbered n ds)[i]? = some d → ∃ z, ds[i]? = some z ∧ d = .arg [.int ((n + i : Nat) : Int), z]
  | _, _, [], _, h => by simp [numbered] at h
  | n, 0, z :: ds, d, h => by simp [numbered] at h; exact ⟨z, rfl, by simpa using h.symm⟩
  | n, i + 1, z :: ds, d, h => by
    simp only [numbered, List.getElem?_cons_succ] at h
    obtain ⟨y, e1, e2⟩ := numbered_get h
    exact ⟨y, by simpa using e1, by rw [e2]; congr 3; omega⟩
theorem numbered_len : ∀ {n : Nat} {ds : List D}, (numbered n ds).length = ds.length
  | _, [] => rfl
  | n, d :: ds => by simp [numbered, numbered_len]
theorem iter_en {K : PySem.W.Frag} {F : Hp} {k : Bool} {a : Addr} {vs : List V} {xs : List D} (ha : SqK K k F a vs) (rx : Rps K F vs xs) : IterOk K (Iten K k a) F (numbered 0 xs) := by
  have at1 : ∀ {F1 H : Hp}, FLe F F1 → FLe F1 H → SqK K k H a vs := fun h1 h2 => h2.sqK (h1.sqK ha)
  have lx := rx.length
  refine ⟨fun i F1 H h1 h2 hi => ⟨vs, at1 h1 h2, by rw [lx]; rw [numbered_len] at hi; exact hi⟩, fun F1 H h1 h2 => ⟨vs, at1 h1 h2, by rw [lx, numbered_len]⟩, fun i F1 H H' x d h1 h2 e y => ?_⟩
  obtain ⟨T, v, rfl, hT, rfl, g1⟩ := y
  obtain ⟨z, ez, rfl⟩ := numbered_get e
  obtain ⟨v', e1, r1⟩ := rx.get ez
  have e3 := g1 vs (at1 h1 h2)
  rw [e1] at e3; cases e3
  have n := New.obj h2 hT (.tup [.int (i : Nat), v])
  refine ⟨_, n, .arg (.inl (.inl upd_same)) (.cons ?_ (.cons (r1.mono (h1.trans n.f)) .nil))⟩
  rw [Nat.zero_add]
  exact .int _
def enumD : List D → Option (List D)
  | [x] => (seqD x).map (numbered 0)
  | _ => none
def iEnumX (s : SA) : SA := fun ρ => (s ρ).bind fun ds ρ' => ofO (enumD ds) ρ'
@[simp] theorem ev_iEnumX (s : SA) (ρ : Env) : iEnumX s ρ = (s ρ).bind fun ds ρ' => ofO (enumD ds) ρ' := rfl
section
variable {ex : Exx} {X : Cx} {W : WX} {a b c e tg : Expr} {p pos : Pos} {sA : SA} {G : Gx}
theorem d_iEnumX {elts : List Expr} {kk : Nat} {tpos : Pos} (hg : Gl X "enumerate") (hm : X.mg "enumerate" = none) (ha : DA (GK X ex) X W [e] sA) (hs : starEach [e] X.env = [(false, eval e X.env)] := by rfl) :
    DI (GK X ex) X W (.Tuple elts kk tpos) (.Call (.Name "enumerate" p) [e] [] pos) (iEnumX sA) :=
  wkI (pi_en hg hm ha hs) fun σ H Q ⟨ρ, F, Rv, io, rel, q⟩ => by
    refine ⟨ρ, F, Rv, io, rel, ?_⟩
    rw [ev_iEnumX] at q
    cases e1 : sA ρ with
    | stuck => rw [e1] at q; exact q.elim
    | exc x ρ' => rw [e1] at q; exact q
    | ok ds ρ' =>
      rw [e1, R.bind_ok] at q
      intro vs H' F' le rel' rs
      cases e3 : enumD ds with
      | none => rw [e3] at q; exact q.elim
      | some zs =>
        rw [e3] at q
        unfold enumD at e3
        split at e3
        · rename_i x
          cases ea : seqD x with
          | none => rw [ea] at e3; cases e3
          | some xs =>
            rw [ea] at e3
            cases e3
            cases rs with
            | cons r1 rs =>
              cases rs
              obtain ⟨k, a, us, rfl, s1, q1⟩ := seqD_sq r1 ea
              exact ⟨k, a, us, rfl, rel'.fH.sqK s1, q _ H' F' le rel' (iter_en s1 q1)⟩
        · cases e3
/-! ### range(i, j, -1) -/
def downto (lo : Int) (n : Nat) : List D := (List.range n).map fun i => .int (lo + (i : Nat) * (-1))
theorem iter_down {K : PySem.W.Frag} {F : Hp} {lo : Int} {n : Nat} : IterOk K (Itc lo (-1) n) F (downto lo n) := by
  refine ⟨fun i F1 H h1 h2 hi => by simpa [downto, Itc] using hi, fun F1 H h1 h2 => by simp [downto, Itc], fun i F1 H H' x d h1 h2 e y => ?_⟩
  obtain ⟨e1, rfl⟩ := y
  rw [e1]
  refine ⟨F1, New.refl h2, ?_⟩
  unfold downto at e
  rw [List.getElem?_map] at e
  have hi : i < n := by
    by_cases h : i < n
    · exact h
    · rw [List.getElem?_eq_none (by simp; omega)] at e; cases e
  rw [List.getElem?_range hi] at e
  cases e
  exact .int _
def rng3D : List D → Option (List D)
  | [.int i, .int j, .int k] => if k = -1 ∧ -(2 ^ 62) ≤ i ∧ i < 2 ^ 62 ∧ -(2 ^ 62) ≤ j ∧ j < 2 ^ 62 then some (downto i (i - j).toNat) else none
  | _ => none
def iRng3' (s : SA) : SA := fun ρ => (s ρ).bind fun ds ρ' => ofO (rng3D ds) ρ'
@[simp] theorem ev_iRng3 (s : SA) (ρ : Env) : iRng3' s ρ = (s ρ).bind fun ds ρ' => ofO (rng3D ds) ρ' := rfl
theorem d_iRng3 (hg : Gl X "range") (hm : X.mg "range" = none) (ha : DA (GK X ex) X W [a, b, c] sA) (hs : starEach [a, b, c] X.env = (false, eval a X.env) :: starEach [b, c] X.env := by rfl) (hpl : (backTo pos (starEach [b, c] X.env)).any (·.1) = false := by rfl) :
    DI (GK X ex) X W tg (.Call (.Name "range" p) [a, b, c] [] pos) (iRng3' sA) :=
  wkI (pi_range3 hg hm ha hs hpl) fun σ H Q ⟨ρ, F, Rv, io, rel, q⟩ => by
    refine ⟨ρ, F, Rv, io, rel, ?_⟩
    rw [ev_iRng3] at q
    cases e : sA ρ with
    | stuck => rw [e] at q; exact q.elim
    | exc x ρ' => rw [e] at q; exact q
    | ok ds ρ' =>
      rw [e, R.bind_ok] at q
      intro vs H' F' le rel' rp
      cases e2 : rng3D ds with
      | none => rw [e2] at q; exact q.elim
      | some zs =>
        rw [e2] at q
        unfold rng3D at e2
        split at e2
        · rename_i i j k
          split at e2
          · rename_i hj
            cases e2
            obtain ⟨rfl, h1, h2, h3, h4⟩ := hj
            cases rp with
            | cons r rr => cases rr with
              | cons r2 rr => cases rr with
                | cons r3 rr => cases rr; cases r; cases r2; cases r3; exact ⟨i, j, -1, _, rfl, RgC.neg h1 h2 h3 h4, q _ H' F' le rel' iter_down⟩
          · cases e2
        · cases e2
/-! ### max(xs) -/
def maxI : List Int → Int
  | [] => 0
  | [x] => x
  | x :: y :: r => if maxI (y :: r) ≤ x then x else maxI (y :: r)
theorem maxI_ge : ∀ {ns : List Int} {y : Int}, y ∈ ns → y ≤ maxI ns
  | [x], y, h => by simp at h; subst h; exact Int.le_refl _
  | x :: z :: r, y, h => by
    unfold maxI
    rcases List.mem_cons.mp h with rfl | h
    · split <;> omega
    · have := maxI_ge h
      split <;> omega
theorem maxI_mem : ∀ {ns : List Int}, ns ≠ [] → maxI ns ∈ ns
  | [x], _ => by simp [maxI]
  | x :: z :: r, _ => by
    unfold maxI
    split
    · exact List.mem_cons_self
    · exact List.mem_cons_of_mem _ (maxI_mem (by simp))
def gMaxL : List D → Option D
  | [.lst xs] => (intsOf xs).bind fun ns => if ns = [] then none else some (.int (maxI ns))
  | _ => none
theorem psem_maxL : PSem G (rMax G.K) gMaxL := fun F H vs ds d Q fh vw e q => by
  unfold gMaxL at e
  split at e
  · rename_i xs
    cases e1 : intsOf xs with
    | none => rw [e1] at e; cases e
    | some ns =>
      rw [e1, Option.bind_some] at e
      split at e
      · cases e
      · rename_i hn
        cases e
        obtain ⟨v, rfl, h⟩ := vw.one
        obtain ⟨a, zs, rfl, t, r⟩ := h.lst fh
        have ez := ints_vw r e1
        subst ez
        refine ⟨a, ns, rfl, SqL.of t, List.length_pos_iff.mpr hn, fun m h1 h2 => ?_⟩
        have : m = maxI ns := Int.le_antisymm (maxI_ge h1) (h2 _ (maxI_mem hn))
        rw [this]
        exact fin_flat fh q (.int _)
  · cases e
/-! ### order of data -/
def cmpOk (x y : PyData) : Bool := PySem.W.alike x y && !(x matches .none) && decide (min x.depth y.depth < 60)
def gGtD : List D → Option D
  | [x, y] => x.py.bind fun a => y.py.bind fun b => if cmpOk a b = true then some (.bl (PySem.W.dataLt b a)) else none
  | _ => none
def gLtD : List D → Option D
  | [x, y] => x.py.bind fun a => y.py.bind fun b => if cmpOk a b = true then some (.bl (PySem.W.dataLt a b)) else none
  | _ => none
def rCmpD (K : PySem.W.Frag) (f : PyData → PyData → Bool) : R2 := fun x y H Q => ∃ a b, Dp K H x a ∧ Dp K H y b ∧ cmpOk a b = true ∧ Q (.bl (f a b)) H
theorem cmpOk_out {x y : PyData} (h : cmpOk x y = true) : PySem.W.alike x y = true ∧ x ≠ .none ∧ min x.depth y.depth < 60 := by
  unfold cmpOk at h
  rw [Bool.and_eq_true, Bool.and_eq_true] at h
  exact ⟨h.1.1, fun z => by subst z; exact absurd h.1.2 (by decide), by simpa using h.2⟩
theorem op_gtD (hu : X.A.units + 64 < cLine) : OpR X (compareOp .Gt) (rCmpD X.K fun a b => PySem.W.dataLt b a) := by
  intro pins s σ H x y v u Q I rx ry ⟨a, b, ha, hb, hc, q⟩
  obtain ⟨as, r1⟩ := Dp.reads I a x v ha rx
  obtain ⟨bs, r2⟩ := Dp.reads I b y u hb ry
  obtain ⟨c1, c2, c3⟩ := cmpOk_out hc
  exact PySem.W.gt_data r1 r2 c1 c2 (by omega) ⟨.bl _, H, I, rfl, q⟩
theorem op_ltD (hu : X.A.units + 64 < cLine) : OpR X (compareOp .Lt) (rCmpD X.K fun a b => PySem.W.dataLt a b) := by
  intro pins s σ H x y v u Q I rx ry ⟨a, b, ha, hb, hc, q⟩
  obtain ⟨as, r1⟩ := Dp.reads I a x v ha rx
  obtain ⟨bs, r2⟩ := Dp.reads I b y u hb ry
  obtain ⟨c1, c2, c3⟩ := cmpOk_out hc
  exact PySem.W.lt_data r1 r2 c1 c2 (by omega) ⟨.bl _, H, I, rfl, q⟩
theorem psem_gtD : PSem G (r2L (rCmpD G.K fun a b => PySem.W.dataLt b a)) gGtD := fun F H vs ds d Q fh vw e q => by
  unfold gGtD at e
  split at e
  · rename_i x y
    cases e1 : x.py with
    | none => rw [e1] at e; cases e
    | some a =>
      cases e2 : y.py with
      | none => rw [e1, e2] at e; cases e
      | some b =>
        rw [e1, e2, Option.bind_some, Option.bind_some] at e
        split at e
        · rename_i hc
          cases e
          obtain ⟨v, w, rfl, h1, h2⟩ := vw.two
          exact ⟨v, w, rfl, a, b, h1.dp fh e1, h2.dp fh e2, hc, fin_flat fh q (.bl _)⟩
        · cases e
  · cases e
theorem psem_ltD : PSem G (r2L (rCmpD G.K fun a b => PySem.W.dataLt a b)) gLtD := fun F H vs ds d Q fh vw e q => by
  unfold gLtD at e
  split at e
  · rename_i x y
    cases e1 : x.py with
    | none => rw [e1] at e; cases e
    | some a =>
      cases e2 : y.py with
      | none => rw [e1, e2] at e; cases e
      | some b =>
        rw [e1, e2, Option.bind_some, Option.bind_some] at e
        split at e
        · rename_i hc
          cases e
          obtain ⟨v, w, rfl, h1, h2⟩ := vw.two
          exact ⟨v, w, rfl, a, b, h1.dp fh e1, h2.dp fh e2, hc, fin_flat fh q (.bl _)⟩
        · cases e
  · cases e
/-! ### a, b = [], [] -/
def sNew2 (i j : Nat) : SS := fun ρ => (gOwn i (.lst []) ρ).bind fun _ ρ2 => (gOwn j (.lst []) ρ2).bind fun _ ρ3 => .ok .nx ρ3
@[simp] theorem ev_new2 (i j : Nat) (ρ : Env) : sNew2 i j ρ = (gOwn i (.lst []) ρ).bind fun _ ρ2 => (gOwn j (.lst []) ρ2).bind fun _ ρ3 => .ok .nx ρ3 := rfl
theorem d_new2 {i j : Nat} {x y : Str} {p1 p2 px py pt : Pos} {kt k2 pt2} (hu : At X W) (hi : X.N[i]? = some x) (hj : X.N[j]? = some y) (hij : i ≠ j) (hx : X.env.scope.names.lookup x = some .local) (hy : X.env.scope.names.lookup y = some .local)
    (hw : swappedStores [.Tuple [.Name x px, .Name y py] kt pt] (.Tuple [.List [] p1, .List [] p2] k2 pt2) X.env = pure (some [x, y])) (hs : swapsWithSole [.Tuple [.Name x px, .Name y py] kt pt] (.Tuple [.List [] p1, .List [] p2] k2 pt2) pos.line X.env = pure false := by rfl) :
    DS (GK X ex) X W (.Assign [.Tuple [.Name x px, .Name y py] kt pt] (.Tuple [.List [] p1, .List [] p2] k2 pt2) pos) (sNew2 i j) :=
  wkS (ps_par hu.calm hu.nd hi hj hij hx hy (pa_cons (d_lstF (W := W) (ex := ex) d_nil) (pa_cons (d_lstF (W := W) (ex := ex) d_nil) pa_nil)) hw hs) fun D σ H ⟨ρ, F, Rv, io, rel, q⟩ => by
    rw [ev_new2] at q
    have l0 : sLst sNil ρ = .ok (.lst []) ρ := by rw [ev_lst, ev_nil, R.bind_ok]; exact if_pos (Nat.zero_le _)
    refine ⟨ρ, F, Rv, io, rel, ?_⟩
    rw [l0]
    intro p H1 F1 le1 rel1 ow lo
    obtain ⟨o, ho, oo⟩ := ow.at_
    refine ⟨ρ, F1, _, io, rel1.keep ho oo ow.nF lo, ?_⟩
    rw [l0]
    intro p' H2 F2 le2 rel2 ow' lo'
    obtain ⟨relD, n1, n2, lo2⟩ := rel2.resDrop ow.nR
    have ne : p' ≠ p := fun z => by have w := ow'.nR; rw [z, upd_same] at w; cases w
    have nR' : Rv p' = none := by have w := ow'.nR; rw [upd_ne ne] at w; exact w
    refine ⟨_, _, rfl, ?_⟩
    cases e1 : gOwn i (.lst []) ρ with
    | stuck => rw [e1] at q; exact q.elim
    | exc x ρ'' => unfold gOwn at e1; split at e1 <;> cases e1
    | ok u ρ2 =>
      rw [e1, R.bind_ok] at q
      obtain ⟨h1, rfl⟩ := gOwn_ok e1
      cases e2 : gOwn j (.lst []) (ρ.set i (.own (.lst []))) with
      | stuck => rw [e2] at q; exact q.elim
      | exc x ρ'' => unfold gOwn at e2; split at e2 <;> cases e2
      | ok u ρ3 =>
        rw [e2, R.bind_ok] at q
        obtain ⟨h2, rfl⟩ := gOwn_ok e2
        have r1 := relD.setOwn (i := i) (p := p) (d := .lst []) ⟨n1, ow.nR, o, n2, oo.mono le2⟩ lo2 h1
        refine q _ H2 F2 (le1.trans le2) (r1.setOwn ⟨ow'.nF, nR', ow'.at_⟩ (fun m c d e3 e4 e5 => ?_) h2)
        rw [List.getElem?_set] at e3 e5
        by_cases z : i = m
        · rw [if_pos z] at e5
          split at e5
          · cases e5; exact ne rfl
          · cases e5
        · rw [if_neg z] at e3 e5; exact lo' m c d e3 e4 e5
end
/-! ### while, however long it runs -/
open Classical in
noncomputable def sWhileT (t : ST) (s : SS) : SS := fun ρ => if h : ∃ n, sWhile t s n ρ ≠ .stuck then sWhile t s h.choose ρ else .stuck
theorem while_more {t : ST} {s : SS} : ∀ {n m : Nat} {ρ : Env}, sWhile t s n ρ ≠ .stuck → n ≤ m → sWhile t s m ρ = sWhile t s n ρ
  | 0, _, _, h, _ => absurd rfl h
  | n + 1, 0, _, _, hm => by omega
  | n + 1, m + 1, ρ, h, hm => by
    unfold sWhile at h ⊢
    cases e : t ρ with
    | stuck => rfl
    | exc x ρ1 => rfl
    | ok k ρ1 =>
      rw [e, R.bind_ok] at h
      rw [R.bind_ok, R.bind_ok]
      cases k with
      | false => rfl
      | true =>
        simp only at h ⊢
        cases e2 : s ρ1 with
        | stuck => rfl
        | exc x ρ2 => rfl
        | ok f ρ2 =>
          rw [e2, R.bind_ok] at h
          rw [R.bind_ok, R.bind_ok]
          cases f with
          | nx => exact while_more h (by omega)
          | ct => exact while_more h (by omega)
          | bk => rfl
          | rt d => rfl
theorem while_T {t : ST} {s : SS} {n : Nat} {ρ : Env} {r : R Fl} (h : sWhile t s n ρ = r) (hr : r ≠ .stuck) : sWhileT t s ρ = r := by
  have hx : ∃ n, sWhile t s n ρ ≠ .stuck := ⟨n, by rw [h]; exact hr⟩
  unfold sWhileT
  rw [dif_pos hx]
  have h1 := hx.choose_spec
  rcases Nat.le_total n hx.choose with z | z
  · rw [← h]; exact while_more (by rw [h]; exact hr) z
  · rw [← h]; exact (while_more h1 z).symm
theorem d_whileT {ex : Exx} {X : Cx} {W : WX} {c : Expr} {pos : Pos} {t : ST} {body : List Stmt} {s : SS} (hp : PassesOwn (model X.prog X.w) X.A X.env X.xe) (hc : DT (GK X ex) X W c t) (hb : DSs (GK X ex) X W body s) : DS (GK X ex) X W (.While c body [] pos) (sWhileT t s) :=
  ⟨fun pins s0 σ H D I ⟨ρ, F, Rv, io, rel, q⟩ => by
    unfold sWhileT at q
    by_cases hx : ∃ n, sWhile t s n ρ ≠ .stuck
    · rw [dif_pos hx] at q
      exact (d_while hx.choose hp hc hb).run pins s0 σ H D I ⟨ρ, F, Rv, io, rel, q⟩
    · rw [dif_neg hx] at q; exact q.elim⟩
end Dt

set_option Elab.async false
set_option linter.all false
set_option maxRecDepth 100000
set_option maxHeartbeats 4000000
/-! raise of the package's exceptions (classes below ValueError without an __init__ of their own). -/
namespace Dt
open PySem PySem.Spec PyProof.Rows L2
def veB : List Value := [.type "ValueError", .type "Exception", .type "BaseException", .type "object"]
/-- where the classes lie -/
def exA (K : PySem.W.Frag) (n : String) : Addr := fnA K (Str.ofString n)
/-- the class of that name, as it stands -/
structure ExcK (K : PySem.W.Frag) (mg : Str → Option Value) (n : String) : Prop where
  m : mg (Str.ofString n) = some (.ref (exA K n))
  e : PySem.W.excIn K (exA K n) veB "ValueError.__new__" = true
  k : PySem.W.keepIn K (.ref (exA K n)) = true
  b : PySem.W.subIn K (.ref (exA K n)) (.type "BaseException") = some true
  t : PySem.W.typeIn K (.ref (exA K n)) = some (.type "type")
/-- raise X("m") -/
def sRaise (n : String) : SS := fun ρ => .exc ⟨n, .non⟩ ρ
@[simp] theorem ev_raise (n : String) (ρ : Env) : sRaise n ρ = .exc ⟨n, .non⟩ ρ := rfl
theorem d_raise {T : List (Addr × Str)} {X : Cx} {W : WX} {n : String} {m : Str} {j : Nat} {p p2 pos rpos : Pos} (hu : At X W) (c : ExcK X.K X.mg n) (hg : Gl X (Str.ofString n)) (hd : (Str.ofString n == ("__debug__" : Str)) = false := by decide) :
    DS (GK X ⟨exA X.K, T⟩) X W (.Raise (some (.Call (.Name (Str.ofString n) p) [.Constant (.str m) j p2] [] pos)) none rpos) (sRaise n) :=
  wkS (L2N.ps_raise hu.calm hu.tk (L2N.pmk_own PySem.F.excBase_ValueError c.e c.m c.k (raises_own c.b c.t) hg hd)) fun D σ H ⟨ρ, F, Rv, io, rel, q⟩ => q (.ref (exA X.K n)) none σ H F (FLe.refl F) rel ⟨rfl, rfl⟩
end Dt

set_option Elab.async false
set_option linter.all false
set_option maxRecDepth 100000
set_option maxHeartbeats 4000000
/-! While an exception is handled: ends of iterations, tuples unpacked, zip, list comprehensions. -/
namespace Dt
open PySem PySem.Spec PyProof.Rows L2 HotX
section
variable {prog : Program} {w : World} {A : Around} {E : Value → Shared → Prop} {s : Shared} {x1 : Addr}
/-- the end of an iteration, raised while x1 is handled -/
theorem stop_hot {α : Type} {Q : α → Shared → Prop} (hot : HotAt A x1 s.heap)
    (h : ∀ h' e, (∀ b o, s.heap.get? b = some o → h'.get? b = some o) → (∃ o, h'.get? e = some o ∧ o.cls = .type "StopIteration") → E (.ref e) { s with heap := h' }) :
    wpAny (model prog w) A (newExc (.type "StopIteration") [] >>= fun e => (raiseNew e : Sem α)) Q E s := by
  obtain ⟨hh, o1, vs1, h1, d1, c1⟩ := hot
  have up : ∀ {h : Heap} (o o' : Obj) (b : Addr) (ob : Obj), h.get? b = some ob → ((h.push o).push o').get? b = some ob := fun o o' b ob e => Heap.get?_push_of_some _ (Heap.get?_push_of_some _ e)
  refine wpAny_bind ?_; simp only [newExc, newTuple]
  refine wpAny_bind (wpAny_newObj_type (wpAny_bind (m := firstArgMember _ _) (wpAny_of_eq (a := Value.none) (by first | rfl | (simp only [firstArgMember]; rfl)) (wpAny_newObj_type ?_ (by size_fits)))) (by size_fits))
  refine raiseNew_hot ⟨hh, o1, vs1, up _ _ _ _ h1, d1, c1⟩ (Nat.ne_of_lt (Heap.lt_size (Heap.get?_push_of_some _ h1))) (Heap.get?_push_size _ rfl) rfl (by first | (simp; done) | (simp; omega) | (simp only [Array.size_append]; simp; omega)) (h _ _ (fun b o e => ?_) ⟨_, Heap.get?_update_self _ (Heap.get?_push_size _ rfl) rfl, rfl⟩)
  exact (Heap.get?_update_other _ _ (Nat.ne_of_gt (Heap.lt_size (Heap.get?_push_of_some _ e)))).trans (up _ _ _ _ e)
theorem HotAt.keep {h h' : Heap} (c : HotAt A x1 h) (k : ∀ o, h.get? x1 = some o → h'.get? x1 = some o) : HotAt A x1 h' := let ⟨a, o, vs, e, d⟩ := c; ⟨a, o, vs, k o e, d⟩
theorem nextOf_list_hot {it l : Addr} {i : Nat} {items : Array Value} {Q : Value → Shared → Prop} (hot : HotAt A x1 s.heap) (hne : x1 ≠ it) (hit : s.heap.IsListIter it l i) (hl : s.heap.IsList l items) (hx : items[i]? = none)
    (hE : ∀ h' e, Heap.ExtBut it s.heap h' → (∃ o, h'.get? e = some o ∧ o.cls = .type "StopIteration") → E (.ref e) { s with heap := h' }) : wpAny (model prog w) A (Builtin.SmallTypes.nextOf (.ref it)) Q E s := by
  obtain ⟨o, ho, hc, hd⟩ := id hit; obtain ⟨ol, hol, _, nl, hdl⟩ := hl; unfold Builtin.SmallTypes.nextOf
  refine wpAny_bind (wpAny_callSpecial?_slot (name := Str.ofString "__next__") hit.typeIs slot_listiter_next (wpAny_call_entry slot_listiter_next hit.typeIs entry_listiter_next ?_ (args_listiter_next _)))
  show wpAny _ _ (field (.ref it) 0 >>= _) _ _ s; refine wpAny_bind (wpAny_field ho hd (x := .ref l) rfl ?_); show wpAny _ _ (if (Value.ref l == Value.none) = true then _ else _) _ _ s
  rw [if_neg (show ¬ ((Value.ref l == Value.none) = true) from Bool.false_ne_true)]; show wpAny _ _ (field (.ref it) 1 >>= _) _ _ s; refine wpAny_bind (wpAny_field ho hd (x := .int i 0) rfl ?_)
  show wpAny _ _ (seqItems? (.ref l) >>= _) _ _ s; refine wpAny_bind (wpAny_seqItems hol hdl ?_); simp only [Int.toNat_natCast, hx]
  refine wpAny_bind (wpAny_rule (wpAny_bind (wpAny_setField ho hd (by simp) ?_)))
  refine stop_hot (HotAt.keep hot fun o e => (Heap.get?_update_other _ _ hne.symm).trans e) fun h' e k st => hE h' e (fun b o hb e => k b o ((Heap.get?_update_other _ _ (Ne.symm hb)).trans e)) st
theorem draws_list_hot (hh : A.handled = some (.ref x1)) (it l : Addr) (hne : l ≠ it) (hx : x1 ≠ it) (items : Array Value) : Draws prog w A it [it, l, x1] items.size (fun i v => items[i]? = some v) (fun i h => (h.IsListIter it l i ∧ h.IsList l items) ∧ HotAt A x1 h) where
  live := fun _ _ st => let ⟨o, ho, _⟩ := st.1.1; ⟨o, ho⟩
  frame := fun _ _ _ st hk => ⟨⟨st.1.1.at fun o e => hk it (by simp) o e, st.1.2.at fun o e => hk l (by simp) o e⟩, HotAt.keep st.2 fun o e => hk x1 (by simp) o e⟩
  item := fun i s Q E hi st hQ => wpAny_nextOf_list_item st.1.1 st.1.2 (x := items[i]) (by simp [hi]) fun h' hit' hs' => hQ _ h' s.toks (by simp [hi]) ⟨⟨hit', st.1.2.extBut hs'.extBut hne⟩, HotAt.keep st.2 fun o e => hs'.extBut _ _ hx e⟩ hs'
  done := fun s Q E st hE => nextOf_list_hot st.2 hx st.1.1 st.1.2 (by simp) hE
/-- a tuple unpacked -/
theorem next_tuple_hot {it t : Addr} {i : Nat} {items : Array Value} {Q : Option Value → Shared → Prop} (hot : HotAt A x1 s.heap) (hne : x1 ≠ it) (hit : IsTupIter s.heap it t i) (ht : IsTup s.heap t items) (hx : items[i]? = none)
    (hQ : ∀ h', Heap.ExtBut it s.heap h' → Q none { s with heap := h' }) : wpAny (model prog w) A (pyNext (.ref it)) Q E s := by
  obtain ⟨o, ho, hc, hd⟩ := id hit; obtain ⟨ol, hol, _, nl, hdl⟩ := ht; unfold pyNext
  refine wpAny_bind (wpAny_attempt (wpAny_callSpecial?_slot (name := Str.ofString "__next__") hit.typeIs slot_tupleiter_next (wpAny_call_entry slot_tupleiter_next hit.typeIs entry_tupleiter_next ?_ (args_tupleiter_next _))))
  show wpAny _ _ (field (.ref it) 0 >>= _) _ _ s; refine wpAny_bind (wpAny_field ho hd (x := .ref t) rfl ?_); show wpAny _ _ (if (Value.ref t == Value.none) = true then _ else _) _ _ s
  rw [if_neg (show ¬ ((Value.ref t == Value.none) = true) from Bool.false_ne_true)]; show wpAny _ _ (field (.ref it) 1 >>= _) _ _ s; refine wpAny_bind (wpAny_field ho hd (x := .int i 0) rfl ?_)
  show wpAny _ _ (seqItems? (.ref t) >>= _) _ _ s; refine wpAny_bind (wpAny_seqItems hol hdl ?_); simp only [Int.toNat_natCast, hx]
  refine wpAny_bind (wpAny_rule (wpAny_bind (wpAny_setField ho hd (by simp) ?_)))
  refine stop_hot (HotAt.keep hot fun o e => (Heap.get?_update_other _ _ hne.symm).trans e) fun h' e k ⟨oe, st, sc⟩ => wpAny_bind (wpAny_isInstance (T := "StopIteration") (b := true) ⟨oe, st, sc⟩ isSubtype_stop (wpAny_pure (hQ h' fun b o hb e => k b o ((Heap.get?_update_other _ _ (Ne.symm hb)).trans e))))
theorem unpackItems_hot {t : Addr} {items : Array Value} {Q : List Value → Shared → Prop} (hot : HotAt A x1 s.heap) (ht : IsTup s.heap t items)
    (hQ : ∀ h', Heap.ExtBut s.heap.objs.size s.heap h' → Q items.toList { s with heap := h' }) : wpAny (model prog w) A (unpackItems (.ref t) items.size none) Q E s := by
  have hlt : t ≠ s.heap.objs.size := let ⟨o, ho, _⟩ := ht; Nat.ne_of_lt (Heap.lt_size ho)
  have hx : x1 ≠ s.heap.objs.size := let ⟨_, o, _, ho, _⟩ := hot; Nat.ne_of_lt (Heap.lt_size ho)
  unfold unpackItems; refine wpAny_bind ?_; unfold notIterableAtAll
  refine wpAny_bind (wpAny_specialOf ht.typeIs slot_tuple_iter.lookup (wpAny_pure ?_)); simp only [Bool.false_eq_true, if_false]
  refine wpAny_bind (wpAny_holding (iter_tuple ht (wpAny_bind (wpAny_holding (draw_tuple hlt items.size 0 _ _ ⟨_, Heap.get?_push_size _ rfl, rfl, rfl⟩ (ht.push _) (by omega) fun h₁ hit₁ hs₁ => ?_)))))
  have hall : List.take items.size (List.drop 0 items.toList) = items.toList := (by rw [List.drop_zero]; exact List.take_of_length_le (by simp))
  rw [hall, if_neg (by simp)]
  refine wpAny_bind (wpAny_holding (next_tuple_hot (HotAt.keep hot fun o e => hs₁.extBut _ _ hx (Heap.get?_push_of_some _ e)) hx hit₁ ((ht.push _).extBut hs₁.extBut hlt) (by simp) fun h₂ he₂ => ?_))
  simp only [Option.isSome_none, Bool.false_eq_true, if_false]
  exact wpAny_pure (hQ h₂ fun b o hb e => he₂ b o hb (hs₁.extBut b o hb (Heap.get?_push_of_some _ e)))
theorem assign_tuple_hot {env : PySem.Env} {elts : List Expr} {k} {pos : Pos} {t : Addr} {items : Array Value} {Q : Unit → Shared → Prop} (hot : HotAt A x1 s.heap) (ht : IsTup s.heap t items) (hn : (assignEach elts env).length = items.size) (hstar : (assignEach elts env).findIdx? (·.1) = none)
    (h : ∀ h', Heap.ExtBut s.heap.objs.size s.heap h' → wpAny (model prog w) A (assignInOrder ((assignEach elts env).map (·.2)) items.toList) Q E { s with heap := h' }) : wpAny (model prog w) A (assign (.Tuple elts k pos) env (.ref t)) Q E s := by
  rw [assign_Tuple]; refine wpAny_bind (wpAny_standAt ?_); unfold unpack; rw [hn, hstar]; exact wpAny_bind (wpAny_holding (unpackItems_hot hot ht h))
end
end Dt

set_option Elab.async false
set_option linter.all false
set_option maxRecDepth 100000
set_option maxHeartbeats 4000000
/-! While an exception is handled: zip of two lists, a list comprehension over it. -/
namespace Dt
open PySem PySem.Spec PyProof.Rows L2 HotX
/-- each state of the context bears the exception x1, which is handled -/
def HotB (X : Cx) (x1 : Addr) : Prop := X.A.handled = some (.ref x1) ∧ ∀ pins σ H s, Inv X pins σ H s → HotAt X.A x1 s.heap
theorem HotB.of {X : Cx} {p : Addr × Obj} (h : L2H.Hot1 X.A p) (hp : p ∈ X.pn) : HotB X p.1 := ⟨h.1, fun pins σ H s I => let ⟨v1, e1, c1⟩ := h.2; ⟨h.1, p.2, v1, (I.pin p (List.mem_append_left _ hp)).1, e1, c1⟩⟩
/-- a walk while x1 is handled -/
structure TurnB (x1 : Addr) (P : Program) (w : World) (K : PySem.W.Frag) (tg : Expr) (J : It) (fp : List Addr) (it : Addr) (tn : Nat → Heap → Prop) : Prop where
  ob : ∀ i h, tn i h → ∀ b ∈ fp, ∃ o, h.get? b = some o ∧ ∀ v, o.data ≠ .cell v
  kp : ∀ i h h', tn i h → (∀ b ∈ fp, ∀ o, h.get? b = some o → h'.get? b = some o) → tn i h'
  itm : ∀ (X : Cx), X.prog = P ∧ X.w = w ∧ X.K = K → HotB X x1 → ∀ (i : Nat) (pins : List (Addr × Obj)) (s : Shared) (σ : L2.St) (H : Hp) (E : Value → Shared → Prop), Inv X pins σ H s → (∀ b ∈ fp, FpOk X pins H b) → tn i s.heap → J.go i H →
    wpAny (model P w) X.A (pyNext (.ref it)) (fun r s1 => ∃ u, r = some u ∧ wpAny (model P w) X.A (letOwnedTupleGo tg (.ref it) u) (fun _ s2 => ∃ x H', Inv X pins σ H' s2 ∧ RelV x u ∧ J.yld i H x H' ∧ tn (i + 1) s2.heap ∧ ∀ b ∈ fp, H' b = none) E s1) E s
  dn : ∀ (X : Cx), X.prog = P ∧ X.w = w ∧ X.K = K → HotB X x1 → ∀ (i : Nat) (pins : List (Addr × Obj)) (s : Shared) (σ : L2.St) (H : Hp) (E : Value → Shared → Prop), Inv X pins σ H s → (∀ b ∈ fp, FpOk X pins H b) → tn i s.heap → J.stop i H →
    wpAny (model P w) X.A (pyNext (.ref it)) (fun r s1 => r = none ∧ Inv X pins σ H s1) E s
  sf : ∀ (A : Around) (i : Nat) (s : Shared) (Q : Value → Shared → Prop) (E : Value → Shared → Prop), tn i s.heap → Q (.ref it) s → wpAny (model P w) A (pyIter (.ref it)) Q E s
theorem turn_zzB {P : Program} {w : World} {K : PySem.W.Frag} {elts : List Expr} {kk : Nat} {tpos : Pos} {a b N x1 : Addr} (ha : a < N) (hb : b < N) (hx : x1 < N) :
    TurnB x1 P w K (.Tuple elts kk tpos) (Itzz K false false a b) [N + 4, N + 2, N + 3, N, N + 1] (N + 4) (fun i h => IsZip h (N + 4) (N + 2) (N + 3) .none ∧ IsTupOf2 h (N + 2) (.ref N) (.ref (N + 1)) ∧ (∃ x y, IsTupOf2 h (N + 3) x y) ∧ ItKd false h N a i ∧ ItKd false h (N + 1) b i) := by
  have two : ∀ {c d : Addr}, d < N → ∀ z ∈ [d, x1], z < N := fun {c d} h z hz => by
    have : z = d ∨ z = x1 := by simpa using hz
    rcases this with rfl | rfl
    · exact h
    · exact hx
  have S : ZipSep2 (N + 4) (N + 2) (N + 3) N (N + 1) [N, a, x1] [N + 1, b, x1] := zip_sep2 (two (c := 0) ha) (two (c := 0) hb)
  have nea : a ≠ N := Nat.ne_of_lt ha
  have neb : b ≠ N + 1 := Nat.ne_of_lt (Nat.lt_succ_of_lt hb)
  have nx1 : x1 ≠ N := Nat.ne_of_lt hx
  have nx2 : x1 ≠ N + 1 := Nat.ne_of_lt (Nat.lt_succ_of_lt hx)
  obtain ⟨_, ob, kp, _, _, sf⟩ := turn_zz (P := P) (w := w) (K := K) (elts := elts) (kk := kk) (tpos := tpos) false false ha hb
  have hw : ∀ c ∈ [N + 4, N + 3, N, N + 1], c ∈ [N + 4, N + 2, N + 3, N, N + 1] := fun c hc => by
    have : c = N + 4 ∨ c = N + 3 ∨ c = N ∨ c = N + 1 := by simpa using hc
    rcases this with rfl | rfl | rfl | rfl <;> simp
  refine ⟨ob, kp, ?_, ?_, sf⟩
  · intro X ⟨hP, hW, hK⟩ hot i pins s σ H E I hf st hg; subst hP hW hK
    obtain ⟨xs, ys, hx, hy, hi⟩ := hg
    obtain ⟨its, rv, p1, _⟩ := sq_get I hx
    obtain ⟨its2, rv2, p2, _⟩ := sq_get I hy
    have l1 := rv.length
    have l2 := rv2.length
    have D := WalksT.zipD2 S (draws_list_hot (prog := X.prog) (w := X.w) (A := X.A.in1) hot.1 N a nea nx1 its.toArray) (draws_list_hot (A := X.A.in1) hot.1 (N + 1) b neb nx2 its2.toArray)
    have old : ∀ c ∈ [N + 4, N + 2, N + 3, N, N + 1], c < s.heap.objs.size := fun c hc => let ⟨o, e, _⟩ := ob i _ st c hc; Heap.lt_size e
    obtain ⟨hz, hT, hO, h1, h2⟩ := st
    have hA := hot.2 _ _ _ _ I
    refine turn_item (Y := (Itzz X.K false false a b).yld i H) (tn := fun h => IsZip h (N + 4) (N + 2) (N + 3) .none ∧ IsTupOf2 h (N + 2) (.ref N) (.ref (N + 1)) ∧ (∃ x y, IsTupOf2 h (N + 3) x y) ∧ ItKd false h N a (i + 1) ∧ ItKd false h (N + 1) b (i + 1)) D I hf (by simp; omega) ⟨hz, hT, hO, ⟨⟨h1, p1⟩, hA⟩, ⟨⟨h2, p2⟩, hA⟩⟩ hw old (fun vals hv => ?_) fun h' st' => ⟨st'.1, st'.2.1, st'.2.2.1, st'.2.2.2.1.1.1, st'.2.2.2.2.1.1⟩
    obtain ⟨u1, u2, e1, e2, rfl⟩ := hv
    obtain ⟨x, ex, rx⟩ := vals_at rv e1
    obtain ⟨y, ey, ry⟩ := vals_at rv2 e2
    exact ⟨[x, y], .cons rx (.cons ry .nil), by show 2 ≤ sizeLine; decide, fun T hT => ⟨T, x, y, rfl, hT, rfl, fun l hl => by rw [sq_inj I hl hx]; exact ex, fun l hl => by rw [sq_inj I hl hy]; exact ey⟩⟩
  · intro X ⟨hP, hW, hK⟩ hot i pins s σ H E I hf st hg; subst hP hW hK
    obtain ⟨xs, ys, hx, hy, hi⟩ := hg
    obtain ⟨its, rv, p1, _⟩ := sq_get I hx
    obtain ⟨its2, rv2, p2, _⟩ := sq_get I hy
    have l1 := rv.length
    have l2 := rv2.length
    have D := WalksT.zipD2 S (draws_list_hot (prog := X.prog) (w := X.w) (A := X.A.in1) hot.1 N a nea nx1 its.toArray) (draws_list_hot (A := X.A.in1) hot.1 (N + 1) b neb nx2 its2.toArray)
    obtain ⟨hz, hT, hO, h1, h2⟩ := st
    have hA := hot.2 _ _ _ _ I
    have e : i = min its.toArray.size its2.toArray.size := by simp; omega
    exact turn_done D I hf ⟨hz, hT, hO, ⟨⟨by rw [← e]; exact h1, p1⟩, hA⟩, ⟨⟨by rw [← e]; exact h2, p2⟩, hA⟩⟩ hw
def PIEB (X : Cx) (x1 : Addr) (pins : List (Addr × Obj)) (σ : L2.St) (tg : Expr) (R : It → Hp → Prop) (v : Value) (s : Shared) : Prop :=
  ∃ (it : Addr) (fp : List Addr) (tn : Nat → Heap → Prop) (J : It) (H : Hp), v = .ref it ∧ Inv X pins σ H s ∧ TurnB x1 X.prog X.w X.K tg J fp it tn ∧ tn 0 s.heap ∧ (∀ b ∈ fp, FpOk X pins H b) ∧ R J H
structure PIB (X : Cx) (x1 : Addr) (tg iter : Expr) (wi : TI) : Prop where
  run : ∀ (pins : List (Addr × Obj)) (s : Shared) (σ : L2.St) (H : Hp) (R : It → Hp → Prop), Inv X pins σ H s → wi σ H R → wpAny (model X.prog X.w) X.A (eval iter X.env) (fun v s1 => wpAny (model X.prog X.w) X.A (pyIter v) (PIEB X x1 pins σ tg R) X.xe s1) X.xe s
def iZipB (K : PySem.W.Frag) (ta : TA) : TI := fun σ H R => ta σ H fun vs H1 => ∃ a b xs ys, vs = [.ref a, .ref b] ∧ SqL K H1 a xs ∧ SqL K H1 b ys ∧ R (Itzz K false false a b) H1
theorem pi_zzB {X : Cx} {x1 : Addr} {e e2 : Expr} {ta : TA} {p pos tpos : Pos} {elts : List Expr} {kk : Nat} (hot : HotB X x1) (hg : Gl X "zip") (hm : X.mg "zip" = none) (ha : PA X [e, e2] ta)
    (hs : starEach [e, e2] X.env = (false, eval e X.env) :: starEach [e2] X.env := by rfl) (hpl : (backTo pos (starEach [e2] X.env)).any (·.1) = false := by rfl) : PIB X x1 (.Tuple elts kk tpos) (.Call (.Name "zip" p) [e, e2] [] pos) (iZipB X.K ta) := by
  refine ⟨fun pins s σ H R I h => Call_ (ld_blt I hg hm boot_zip (callWith_type1 (thn (ha.run pos pins s σ H _ I h) fun us s1 ⟨vs, H1, I1, r1, a, b, xs, ys, ex, hx, hy, q1⟩ => ?_) hs hpl))⟩
  subst ex
  cases r1 with
  | cons r rr =>
    cases rr with
    | cons r' rr =>
      cases rr; cases r; cases r'
      obtain ⟨its, rv, p1, la⟩ := sq_get (k := false) I1 hx
      obtain ⟨its2, rv2, p2, lb⟩ := sq_get (k := false) I1 hy
      have lx : x1 < s1.heap.objs.size := let ⟨_, o, _, ho, _⟩ := hot.2 _ _ _ _ I1; Heap.lt_size ho
      refine zip_begins2 (begins_sq false a its.toArray) (begins_sq false b its2.toArray) p1 p2 fun h' hz hTI hTO h1 h2 hsz hk => wpAny_pyIter_zip hz ?_
      refine ⟨_, _, _, _, H1, rfl, I1.kept (t' := s1.toks) hk, turn_zzB la lb lx, ⟨hz, hTI, ⟨_, _, hTO⟩, itKd_new h1, itKd_new h2⟩, fun c hcm => ?_, q1⟩
      have : c = s1.heap.objs.size + 4 ∨ c = s1.heap.objs.size + 2 ∨ c = s1.heap.objs.size + 3 ∨ c = s1.heap.objs.size ∨ c = s1.heap.objs.size + 1 := by simpa using hcm
      have hle : s1.heap.objs.size ≤ c := by
        rcases this with rfl | rfl | rfl | rfl | rfl <;> first | exact Nat.le_add_right _ _ | exact Nat.le_refl _
      exact I1.fpOk hle (I1.hok.fresh hle)
theorem pg_tupB {X : Cx} {x1 : Addr} {es : List Expr} {k n : Nat} {pos : Pos} {t : TGs} (hot : HotB X x1) (h : PGs X es t) (hn : (assignEach es X.env).length = n := by rfl) (hst : (assignEach es X.env).findIdx? (·.1) = none := by rfl) : PG X (.Tuple es k pos) (gTup X.K n t) :=
  ⟨fun pins s σ H v u Q I r ⟨a, xs, e1, hq, hl, hw⟩ => by
    subst e1; cases r
    obtain ⟨its, rv, ht, hz⟩ := I.tuple hq
    refine assign_tuple_hot (hot.2 _ _ _ _ I) ht (by simp [hn, ← hl, rv.length]) hst fun h' hx => ?_
    exact h.run pins _ σ H xs _ Q (I.kept (h' := h') (t' := s.toks) fun b o e => hx b o (Nat.ne_of_lt (Heap.lt_size e)) e) (by simpa using rv) hw⟩
end Dt

set_option Elab.async false
set_option linter.all false
set_option maxRecDepth 100000
set_option maxHeartbeats 4000000
/-! While an exception is handled: a list comprehension. -/
namespace Dt
open PySem PySem.Spec PyProof.Rows L2 HotX
section
variable {X : Cx} {p : Addr × Obj}
/-- a block's states bear it too -/
theorem HotB.blk {pins : List (Addr × Obj)} {σ : L2.St} {H : Hp} {s : Shared} {scope : Scope} {ce : PySem.Env} {fp : List Addr} (hot : L2H.Hot1 X.A p) (hp : p ∈ X.pn) (I : Inv X pins σ H s) (hf : ∀ b ∈ fp, FpOk X pins H b) : HotB (X.blk s H scope ce fp) p.1 := by
  obtain ⟨g, n, nl, nf, _⟩ := I.pin p (List.mem_append_left _ hp)
  obtain ⟨hh, v1, e1, c1⟩ := hot
  exact ⟨hh, fun pins' σ' H' s' J => ⟨hh, p.2, v1, J.base.keep p.1 p.2 g n (fun z => (List.mem_cons.mp (I.stkSub p.1 z)).elim nl nf) fun z => (hf p.1 z).2.2.2.2.2 p (List.mem_append_left _ hp) rfl, e1, c1⟩⟩
theorem lc_hot {pins : List (Addr × Obj)} {s : Shared} {σ : L2.St} {H : Hp} {Q : VK} {elt tg iter : Expr} {ifs : List Expr} {scope : Scope} {own : List (Str × Nat)} {pos pos' : Pos} {wi : TI} {g : TG} {tt : TT} {te : TE} {use : Option (Value → Sem Unit)} {Qf : Value → Shared → Prop}
    (hot : L2H.Hot1 X.A p) (hp : p ∈ X.pn) (hN : X.N.Nodup) (I : Inv X pins σ H s) (hi : PIB X p.1 tg iter wi) (ok : BlkOk X.N X.env.scope scope own)
    (hg : ∀ (s : Shared) (H : Hp) (C : Addr) (cl : List (Str × Addr)) (fp : List Addr), HotB (X.blk s H scope (compEnvC scope cl C X.env) fp) p.1 → PG (X.blk s H scope (compEnvC scope cl C X.env) fp) tg g)
    (ht : ∀ (s : Shared) (H : Hp) (C : Addr) (cl : List (Str × Addr)) (fp : List Addr), PTs (X.blk s H scope (compEnvC scope cl C X.env) fp) ifs tt)
    (he : ∀ (s : Shared) (H : Hp) (C : Addr) (cl : List (Str × Addr)) (fp : List Addr), PE (X.blk s H scope (compEnvC scope cl C X.env) fp) elt te) (hs : ∀ x, foldedSetIterable iter X.env x = pure x) (h : tLc wi g tt te (own.map (·.2)) σ H Q)
    (hR : ∀ D C s' m H', Inv X pins σ H' s' → Q (.ref D) H' → s'.heap.Ns C m → FpOk X pins H' C → compPost (model X.prog X.w) X.A X.xe use Qf (.ref D) C (.ok .next) s') :
    wpAny (model X.prog X.w) X.A (comprehension (.ListComp elt [⟨tg, iter, ifs, 0⟩] scope pos) scope X.env pos' (newList []) false (eval iter X.env) use) Qf X.xe s := by
  have hfree : ∀ y ∈ scope.names, y.2 = .free → ∃ c, X.env.cells.lookup y.1 = some c := fun y hy e => (ok.free y hy e).elim (fun k => I.ok.has _ (.inl k)) fun k => I.ok.has _ (.inr k)
  refine wpAny_comprehension_free (use := use) rfl hs (closure_ok hfree) ok.kind (fun y hy e => by rw [ok.uniq y hy, e]) (thn (hi.run pins s σ H _ I h) fun xv s1 hx => thn hx fun itv s2 ⟨it, fp, tn, J, H2, e, I2, T, st2, f2, q⟩ => ?_)
  subst e
  refine wpAny_newObj_type (newEnv_comp ?_) (by show 0 ≤ sizeLine; decide)
  generalize hD : s2.heap.objs.size = D
  obtain ⟨W, ⟨m0, w0⟩, turn⟩ := q D (I2.hok.fresh (Nat.le_of_eq hD))
  generalize hs3 : ({ s2 with heap := s2.heap.push { cls := .type "list", data := .seq ([] : List Value).toArray } } : Shared) = s3
  have I3 : Inv X pins σ (upd H2 D (.lst [])) s3 := (by
    subst hs3 hD
    exact I2.laid (t' := s2.toks) (fun b o e => Heap.get?_push_of_some _ e) (Nat.le_refl _) ⟨Nat.zero_le _, [], 0, .nil, Heap.get?_push_size _ rfl⟩)
  have h3 : s3.heap = s2.heap.push { cls := .type "list", data := .seq ([] : List Value).toArray } := (by rw [← hs3])
  have f3 : ∀ b ∈ fp, FpOk X pins (upd H2 D (.lst [])) b ∧ b < s3.heap.objs.size := fun b hb => by
    obtain ⟨o, e, _⟩ := T.ob _ _ st2 b hb
    have hlt := Heap.lt_size e
    exact ⟨⟨(upd_ne (by rw [← hD]; exact Nat.ne_of_lt hlt)).trans (f2 b hb).1, (f2 b hb).2⟩, by rw [h3, Heap.size_push]; exact Nat.lt_succ_of_lt hlt⟩
  have st3 : tn 0 s3.heap := T.kp _ _ _ st2 fun b _ o e => (by rw [h3]; exact Heap.get?_push_of_some _ e)
  have I4 := block_start I3 ok hN f3
  have hb : HotB (X.blk s3 (upd H2 D (.lst [])) scope (compEnvC scope (cellsFrom (s3.heap.objs.size + 1) scope.names (cloFrom X.env.cells scope.names [])) s3.heap.objs.size X.env) fp) p.1 := HotB.blk hot hp I3 fun b hb => (f3 b hb).1
  have pg := hg s3 (upd H2 D (.lst [])) s3.heap.objs.size (cellsFrom (s3.heap.objs.size + 1) scope.names (cloFrom X.env.cells scope.names [])) fp hb
  have pt := ht s3 (upd H2 D (.lst [])) s3.heap.objs.size (cellsFrom (s3.heap.objs.size + 1) scope.names (cloFrom X.env.cells scope.names [])) fp; have pe := he s3 (upd H2 D (.lst [])) s3.heap.objs.size (cellsFrom (s3.heap.objs.size + 1) scope.names (cloFrom X.env.cells scope.names [])) fp
  show codeAny _ _ (.compStart (.ListComp elt [⟨tg, iter, ifs, 0⟩] scope pos) 0 (.ref it) (.ref D) (compEnvC scope (cellsFrom (s3.heap.objs.size + 1) scope.names (cloFrom X.env.cells scope.names [])) s3.heap.objs.size X.env)) (compPost (model X.prog X.w) X.A X.xe use Qf (.ref D) s3.heap.objs.size)
    { s3 with heap := pushCells (s3.heap.push { cls := .type "dict", data := .dict #[] }) scope.names }
  have nfp : ∀ b ∈ fp, (upd H2 D (.lst [])) b = none := fun b hb => (f3 b hb).1.1
  generalize hce : compEnvC scope (cellsFrom (s3.heap.objs.size + 1) scope.names (cloFrom X.env.cells scope.names [])) s3.heap.objs.size X.env = ce at I4 pg pt pe hb ⊢
  have cL : ce.locals = s3.heap.objs.size := (by subst hce; rfl)
  generalize hH3 : upd H2 D (.lst []) = H3 at I3 I4 pg pt pe w0 nfp f3 hb
  generalize hs4 : ({ s3 with heap := pushCells (s3.heap.push { cls := .type "dict", data := .dict #[] }) scope.names } : Shared) = s4 at I4 ⊢
  have st4 : tn 0 s4.heap := T.kp _ _ _ st3 fun b _ o e => (by rw [← hs4]; exact pushCells_keeps _ _ _ _ (Heap.get?_push_of_some _ e))
  have stat : ∀ {σ' : L2.St} {H' : Hp} {s' : Shared}, Inv (X.blk s3 H3 scope ce fp) [] σ' H' s' → (∀ b ∈ fp, H' b = none) → ∀ b ∈ fp, FpOk (X.blk s3 H3 scope ce fp) [] H' b := fun {σ' H' s'} I' hn b hb => ⟨hn b hb, (I'.ok.exf b hb).1, I'.ok.exfs b hb, .inl hb, (I'.ok.exf b hb).2, fun p hp => nomatch (show p ∈ ([] : List (Addr × Obj)) ++ [] from hp)⟩
  have loop : codeAny (model X.prog X.w) X.A (.compLoop (.ListComp elt [⟨tg, iter, ifs, 0⟩] scope pos) 0 (.ref it) (.ref D) ce) (compPost (model X.prog X.w) X.A X.xe use Qf (.ref D) s3.heap.objs.size) s4 := by
    refine compLoop_any (fun n s' => ∃ i H', Inv (X.blk s3 H3 scope ce fp) [] (wipe σ (own.map (·.2))) H' s' ∧ tn i s'.heap ∧ (∀ b ∈ fp, H' b = none) ∧ W i n H') ?_ m0 ⟨0, H3, I4, st4, nfp, w0⟩
    rintro n s5 ⟨i, H5, I5, st5, n5, w5⟩
    rcases turn i n H5 w5 with ⟨stop, qq⟩ | ⟨go, Nx, hNx, step⟩
    · refine thnF (T.dn (X.blk s3 H3 scope ce fp) ⟨rfl, rfl, rfl⟩ hb i [] s5 _ H5 (fun _ _ => False) I5 (stat I5 n5) st5 stop) fun r s6 ⟨hr, I6⟩ => ?_
      subst hr
      have I7 : Inv X pins σ H5 s6 := I3.call' (ch := fp) I6.os I6.base I6.hok I6.bare fun b hb => let z := (f3 b hb).1; ⟨z.2.2.2.1, z.2.1, z.2.2.2.2.1, z.2.2.2.2.2⟩
      have nC : H5 s3.heap.objs.size = none := cL ▸ I6.free
      obtain ⟨m, hn, _⟩ := I6.loc
      exact hR D s3.heap.objs.size s6 m H5 I7 qq (cL ▸ hn) (I3.fpOk (Nat.le_refl _) nC)
    · refine thnF (T.itm (X.blk s3 H3 scope ce fp) ⟨rfl, rfl, rfl⟩ hb i [] s5 _ H5 (fun _ _ => False) I5 (stat I5 n5) st5 go) fun r s6 ⟨u, hr, h6⟩ => ?_
      subst hr
      refine thnF h6 fun _ s7 ⟨x, H7, I7, r7, y7, st7, n7⟩ => thnF (pg.run _ s7 _ H7 x u _ (I7.pinned (stat I7 n7) (T.ob _ _ st7)) r7 (step x H7 y7)) fun _ s8 ⟨σ8, H8, I8, hw8, q8⟩ => thnF (pt.run _ s8 σ8 H8 _ I8 q8) fun b s9 ⟨H9, I9, q9⟩ => ?_
      have fin : ∀ {s' : Shared} {H' : Hp}, Inv (X.blk s3 H3 scope ce fp) ([] ++ pinsAt fp s7.heap) σ8 H' s' → Nx H' → ∃ m, m < n ∧ ∃ i H', Inv (X.blk s3 H3 scope ce fp) [] (wipe σ (own.map (·.2))) H' s' ∧ tn i s'.heap ∧ (∀ b ∈ fp, H' b = none) ∧ W i m H' := fun {s' H'} I' nx => by
        obtain ⟨m', hm, w'⟩ := hNx H' nx
        have pin' : ∀ b ∈ fp, ∀ o, s7.heap.get? b = some o → s'.heap.get? b = some o ∧ H' b = none := fun b hb o e => (I'.pin (b, o) (List.mem_append_right _ (List.mem_append_right _ (mem_pinsAt hb e)))).imp id And.left
        refine ⟨m', hm, i + 1, H', (I'.unpinned (pins := [])).weak (by rw [← hw8, wipe_length]) (fun j v e => (wipe_some (hw8 ▸ e)).1), T.kp _ _ _ st7 fun b hb o e => (pin' b hb o e).1, fun b hb => let ⟨o, e, _⟩ := T.ob _ _ st7 b hb; (pin' b hb o e).2, w'⟩
      cases b with
      | false => exact fin I9 q9
      | true => exact thnF (pe.run _ s9 σ8 H9 _ I9 q9) fun z s10 ⟨yv, H10, I10, r10, acc, hD10, hz10, nx⟩ => app_ok (X := X.blk s3 H3 scope ce fp) I10 hD10 hz10 r10 fun s11 I11 => fin I11 nx
  exact codeAny_compStart_list loop (T.sf X.A 0 _ _ _ st4 loop)
theorem pe_lcB {elt tg iter : Expr} {ifs : List Expr} {scope : Scope} {own : List (Str × Nat)} {pos : Pos} {wi : TI} {g : TG} {tt : TT} {te : TE} (hot : L2H.Hot1 X.A p) (hp : p ∈ X.pn) (hN : X.N.Nodup) (hi : PIB X p.1 tg iter wi) (ok : BlkOk X.N X.env.scope scope own)
    (hg : ∀ (s : Shared) (H : Hp) (C : Addr) (cl : List (Str × Addr)) (fp : List Addr), HotB (X.blk s H scope (compEnvC scope cl C X.env) fp) p.1 → PG (X.blk s H scope (compEnvC scope cl C X.env) fp) tg g)
    (ht : ∀ (s : Shared) (H : Hp) (C : Addr) (cl : List (Str × Addr)) (fp : List Addr), PTs (X.blk s H scope (compEnvC scope cl C X.env) fp) ifs tt)
    (he : ∀ (s : Shared) (H : Hp) (C : Addr) (cl : List (Str × Addr)) (fp : List Addr), PE (X.blk s H scope (compEnvC scope cl C X.env) fp) elt te) (hs : ∀ x, foldedSetIterable iter X.env x = pure x := by intro _; rfl) :
    PE X (.ListComp elt [⟨tg, iter, ifs, 0⟩] scope pos) (tLc wi g tt te (own.map (·.2))) := ⟨fun pins s σ H Q I h => by
  rw [eval_ListComp]
  exact lc_hot hot hp hN I hi ok hg ht he hs h fun D C s' m H' I' q hn ⟨f0, f1, f2, f3, f4, f5⟩ => ⟨m, hn, fun h'' sb => ⟨.ref D, H', I'.turned (t' := s'.toks) (fun b o hb e => (sb.2 b hb).trans e) f0 f1 f3 f4 f5, rfl, q⟩⟩⟩
end
end Dt

set_option Elab.async false
set_option linter.all false
set_option maxRecDepth 100000
set_option maxHeartbeats 4000000
/-! s.join(..); while an exception is handled: isinstance of it, the rules of the judgements for zip and comprehensions. -/
namespace Dt
open PySem PySem.Spec PyProof.Rows L2 HotX
/-! ### join -/
def txtsD : List D → Option (List Str)
  | [] => some []
  | .str s :: ds => (txtsD ds).map (s :: ·)
  | _ => none
theorem txts_rp {K : PySem.W.Frag} {F : Hp} : ∀ {vs : List V} {ds : List D} {ys : List Str}, Rps K F vs ds → txtsD ds = some ys → vs = ys.map V.str
  | _, _, _, .nil, e => by cases e; rfl
  | _, _, _, .cons (d := d) (ds := ds) a b, e => by
    cases a with
    | str s =>
      simp only [txtsD] at e
      cases e2 : txtsD ds with
      | none => rw [e2] at e; cases e
      | some zs => rw [e2] at e; cases e; rw [txts_rp b e2]; rfl
    | _ => simp only [txtsD] at e; cases e
def joinG (a : Str) (d : D) : Option D := match d with
  | .lst ds => (txtsD ds).bind fun ys => if (ys.map (·.length)).sum + ys.length * a.length ≤ 16777216 then some (.str (Txt.join a ys)) else none
  | _ => none
def sJoin (so se : SE) : SE := fun ρ => (so ρ).bind fun d ρ1 => match d with
  | .str a => (se ρ1).bind fun l ρ2 => ofO (joinG a l) ρ2
  | _ => .stuck
@[simp] theorem ev_join (so se : SE) (ρ : Env) : sJoin so se ρ = (so ρ).bind fun d ρ1 => match d with
  | .str a => (se ρ1).bind fun l ρ2 => ofO (joinG a l) ρ2
  | _ => .stuck := rfl
section
variable {ex : Exx} {X : Cx} {W : WX} {o e : Expr} {apos pos : Pos} {so se : SE}
theorem d_join (ho : DE (GK X ex) X W o so) (he : DE (GK X ex) X W e se) (hs : starEach [e] X.env = [(false, eval e X.env)] := by rfl) (hbase : attributeBase o "join" X.env (eval o X.env) = eval o X.env := by rfl) (hline : (apos.endLine == pos.line) = true := by rfl) :
    DE (GK X ex) X W (.Call (.Attribute o "join" apos) [e] [] pos) (sJoin so se) :=
  wkE (pe_join ho he hs hbase hline) fun σ H Q ⟨ρ, F, Rv, io, rel, q⟩ => by
    refine ⟨ρ, F, Rv, io, rel, ?_⟩
    unfold sJoin at q
    cases e1 : so ρ with
    | stuck => rw [e1] at q; exact q.elim
    | exc x ρ' => rw [e1] at q; exact q
    | ok d ρ1 =>
      rw [e1, R.bind_ok] at q
      intro v H1 F1 le1 rel1 rp
      cases d with
      | str a =>
        cases rp
        refine ⟨⟨a, rfl⟩, ρ1, F1, Rv, io, rel1, ?_⟩
        cases e2 : se ρ1 with
        | stuck => simp only [e2] at q; exact q.elim
        | exc x ρ' => simp only [e2] at q; exact XPost.le q le1
        | ok l ρ2 =>
          simp only [e2, R.bind_ok] at q
          intro v2 H2 F2 le2 rel2 rp2
          cases e3 : joinG a l with
          | none => rw [e3] at q; exact q.elim
          | some d =>
            rw [e3] at q
            unfold joinG at e3
            split at e3
            · rename_i ds
              cases e4 : txtsD ds with
              | none => rw [e4] at e3; cases e3
              | some ys =>
                rw [e4, Option.bind_some] at e3
                split at e3
                · rename_i hz
                  cases e3
                  cases rp2 with
                  | lst t r =>
                    rw [txts_rp r e4] at t
                    exact ⟨a, _, ys, rfl, rfl, .inl (SqL.of (rel2.fH _ _ t)), hz, q _ H2 F2 (le1.trans le2) rel2 (.str _)⟩
                · cases e3
            · cases e3
      | _ => exact q.elim
end
/-! ### isinstance of the exception that is handled -/
theorem call_isP {X : Cx} {a C : Addr} {oe : Obj} (hp : (a, oe) ∈ X.pn) (c : ExcC X.K C) (hz : Zc (.ref C) none oe) (hf : ∃ vs, oe.data = .fields vs) : CallR X (.builtin "isinstance") (rIsE X.K C a) := fun pins s σ H xs us Q I r ⟨d, cv, b, ex, hcv, e, q⟩ => by
  subst ex
  match us, r with
  | [_, ut], .cons rx (.cons rt .nil) =>
    obtain rfl : _ = Value.ref a := rx
    obtain rfl : ut = cv := hcv _ rt
    have J : PySem.W.InstAt s.heap a oe C none := (by
      obtain ⟨hget, _⟩ := I.pin (a, oe) (List.mem_append_left _ hp)
      obtain ⟨vs, hv⟩ := hf
      obtain ⟨oc, od, da, sl⟩ := oe
      obtain ⟨h1, h2⟩ := hz
      dsimp only at h1 h2 hv; subst h1 h2 hv; exact ⟨hget, rfl, rfl, trivial⟩)
    exact PySem.W.kia_one (PySem.W.handS_kitx_exc c.hg c.hk c.hs c.hd c.ha c.hn c.ht c.hm) I.kIn J e (fun z => nomatch z) fun tk => ⟨V.bl b, H, I.kept (fun _ _ z => z), rfl, q⟩
def sIsE (i : Nat) (a : Addr) (b : Bool) : SE := fun ρ => match ρ[i]? with
  | some (.fro (.exn c)) => if c = a then .ok (.bl b) ρ else .stuck
  | _ => .stuck
section
variable {ex : Exx} {X : Cx} {W : WX} {e : Expr} {p pos : Pos}
theorem d_isE {i : Nat} {a C c : Addr} {oe : Obj} {b : Bool} {t : Str} {q : Pos} (hp : (a, oe) ∈ X.pn) (cc : ExcC X.K C) (hz : Zc (.ref C) none oe) (hf : ∃ vs, oe.data = .fields vs) (hg : Gl X "isinstance") (hm : X.mg "isinstance" = none)
    (gt : Gl X t) (mt : X.mg t = some (.ref c)) (k : PySem.W.kitOne X.K (.ref C) (.ref c) = some b) (ha : PE X e (tVar i)) (hd : (t == ("__debug__" : Str)) = false := by decide)
    (he : starEach (e :: (.Name t q) :: []) X.env = (false, eval e X.env) :: starEach ((.Name t q) :: []) X.env := by rfl) (hpl : (backTo pos (starEach ((.Name t q) :: []) X.env)).any (·.1) = false := by rfl) (hs2 : starEach ((.Name t q) :: []) X.env = (false, eval (.Name t q) X.env) :: starEach [] X.env := by rfl) :
    DE (GK X ex) X W (.Call (.Name "isinstance" p) (e :: (.Name t q) :: []) [] pos) (sIsE i a b) :=
  wkE (isi_gl hg hm (call_isP hp cc hz hf) (pa_cons ha (pa_cons (pe_glob (v := .ref c) gt mt rfl hd) pa_nil hs2) he) he hpl) fun σ H Q ⟨ρ, F, Rv, io, rel, z⟩ => by
    unfold sIsE at z
    cases e1 : ρ[i]? with
    | none => rw [e1] at z; exact z.elim
    | some cl =>
      rw [e1] at z
      cases cl with
      | fro d =>
        cases d with
        | exn c' =>
          by_cases ec : c' = a
          · simp only [if_pos ec] at z
            subst ec
            obtain ⟨v, e2, x, rfl, rp⟩ := rel.slot e1
            cases rp
            exact ⟨_, e2, .ref c, .ref c, b, rfl, (fun u h => h), k, z (.bl b) H F (FLe.refl F) rel (.bl b)⟩
          · simp only [if_neg ec] at z
        | _ => exact z.elim
      | _ => exact z.elim
end
/-! ### zip, targets, comprehensions -/
def zipL : List D → Option (List D)
  | [.lst xs, .lst ys] => some (pairUp xs ys)
  | _ => none
def iZipL (s : SA) : SA := fun ρ => (s ρ).bind fun ds ρ' => ofO (zipL ds) ρ'
@[simp] theorem ev_iZipL (s : SA) (ρ : Env) : iZipL s ρ = (s ρ).bind fun ds ρ' => ofO (zipL ds) ρ' := rfl
def gTupA (n : Nat) (gs : SGs) : SG := fun d ρ => match d with
  | .arg ds => if ds.length = n then gs ds ρ else .stuck
  | _ => .stuck
@[simp] theorem ev_gTupA (n : Nat) (gs : SGs) (ds : List D) (ρ : Env) : gTupA n gs (.arg ds) ρ = if ds.length = n then gs ds ρ else .stuck := rfl
section
variable {ex : Exx} {X : Cx} {W : WX} {e tg elt iter : Expr} {es : List Expr} {p pos : Pos} {sA : SA}
theorem d_iZipB {x1 : Addr} {e2 : Expr} {elts : List Expr} {kk : Nat} {tpos : Pos} (hot : HotB X x1) (hg : Gl X "zip") (hm : X.mg "zip" = none) (ha : DA (GK X ex) X W [e, e2] sA) (hs : starEach [e, e2] X.env = (false, eval e X.env) :: starEach [e2] X.env := by rfl) (hpl : (backTo pos (starEach [e2] X.env)).any (·.1) = false := by rfl) :
    PIB X x1 (.Tuple elts kk tpos) (.Call (.Name "zip" p) [e, e2] [] pos) (tI (GK X ex) W (iZipL sA)) :=
  ⟨fun pins s σ H RR I ⟨ρ, F, Rv, io, rel, q⟩ => (pi_zzB hot hg hm ha hs hpl).run pins s σ H RR I (by
    refine ⟨ρ, F, Rv, io, rel, ?_⟩
    rw [ev_iZipL] at q
    cases e1 : sA ρ with
    | stuck => rw [e1] at q; exact q.elim
    | exc x ρ' => rw [e1] at q; exact q
    | ok ds ρ' =>
      rw [e1, R.bind_ok] at q
      intro vs H' F' le rel' rs
      cases e3 : zipL ds with
      | none => rw [e3] at q; exact q.elim
      | some zs =>
        rw [e3] at q
        unfold zipL at e3
        split at e3
        · rename_i xs ys
          cases e3
          match vs, rs with
          | [_, _], .cons r1 (.cons r2 .nil) =>
            cases r1 with
            | lst t1 q1 =>
              cases r2 with
              | lst t2 q2 =>
                have s1 : SqK X.K false F' _ _ := SqL.of t1
                have s2 : SqK X.K false F' _ _ := SqL.of t2
                exact ⟨_, _, _, _, rfl, rel'.fH.sqL s1, rel'.fH.sqL s2, q _ H' F' le rel' (iter_zz s1 s2 q1 q2)⟩
        · cases e3)⟩
theorem d_gTupB {x1 : Addr} {k n : Nat} {gs : SGs} {js : List Nat} (hot : HotB X x1) (h : DGs (GK X ex) X W js es gs) (hn : (assignEach es X.env).length = n := by rfl) (hst : (assignEach es X.env).findIdx? (·.1) = none := by rfl) : DG (GK X ex) X W js (.Tuple es k pos) (gTupA n gs) :=
  wkG (pg_tupB hot h hn hst) fun v σ H Q ⟨d, ρ, F, Rv, io, rel, rp, q⟩ => by
    cases d with
    | arg ds =>
      cases rp with
      | arg t r =>
        rw [ev_gTupA] at q
        by_cases hl : ds.length = n
        · rw [if_pos hl] at q
          exact ⟨_, _, rfl, rel.fH.sqT t, by rw [r.length]; exact hl, ds, ρ, F, Rv, io, rel, r, q⟩
        · rw [if_neg hl] at q; exact q.elim
    | _ => exact q.elim
theorem d_compFB {pp : Addr × Obj} {ifs : List Expr} {scope : Scope} {own : List (Str × Nat)} {it : SA} {g : SG} {t : ST} {s : SE} {js : List Nat} (hot : L2H.Hot1 X.A pp) (hp : pp ∈ X.pn) (nd : X.N.Nodup) (hi : PIB X pp.1 tg iter (tI (GK X ex) W it)) (ok : BlkOk X.N X.env.scope scope own)
    (hg : ∀ (s : Shared) (H : Hp) (C : Addr) (cl : List (Str × Addr)) (fp : List Addr), HotB (X.blk s H scope (compEnvC scope cl C X.env) fp) pp.1 → DG (GK X ex) (X.blk s H scope (compEnvC scope cl C X.env) fp) W0 js tg g)
    (ht : ∀ (s : Shared) (H : Hp) (C : Addr) (cl : List (Str × Addr)) (fp : List Addr), PTs (X.blk s H scope (compEnvC scope cl C X.env) fp) ifs (tT (GK X ex) W0 t))
    (he : ∀ (s' : Shared) (H : Hp) (C : Addr) (cl : List (Str × Addr)) (fp : List Addr), DE (GK X ex) (X.blk s' H scope (compEnvC scope cl C X.env) fp) W0 elt s) (hjs : js.all (fun j => (own.map (·.2)).contains j) = true) (hs : ∀ x, foldedSetIterable iter X.env x = pure x := by intro _; rfl) :
    DF (GK X ex) X W (.ListComp elt [⟨tg, iter, ifs, 0⟩] scope pos) (sComp (own.map (·.2)) it g t s) :=
  wkE (pe_lcB hot hp nd hi ok hg ht he hs) fun σ H Q h => comp_core hjs h
end
end Dt

set_option Elab.async false
set_option linter.all false
set_option maxRecDepth 100000
set_option maxHeartbeats 4000000
/-! A def called while an exception is handled, its promise told of the very exception. -/
namespace Dt
open PySem PySem.Spec PyProof.Rows L2 HotX L2H
abbrev CXf : CXT := fun _ _ _ _ _ _ => False
section
variable {P : Program} {w : World} {K : PySem.W.Frag} {mg : Str → Option Value} {base : Heap}
/-- a def's body runs while p is handled -/
theorem run_pin {CX : CXT} {x qual : Str} {st : Stmt} {f : Addr} {fd : FuncData} {N ps : List Str} {k : Nat} (F : Fun K x qual st f fd) (S : FnScope N ps (defScope st)) {A : Around} {outer : List PySem.Env} {s : Shared} {H : Hp} {args : Args} {us : List Value} {vs : List V} {Q : VK} {E : XK} {p : Addr × Obj}
    (hr : RoomH (k + 1) A) (pin : PinOk outer H s p) (e0 : Env0 P w K mg base A outer s H) (hb : BindsTo s fd args (ps.zip us)) (r : Vals vs us) (hl : vs.length = ps.length)
    (body : ∀ cd : Value, RoomH k (A.deeper (envOfC qual (defScope st) s.heap.objs.size f cd)) → ∃ t, PSs (cxH CX P w K mg base N qual (defScope st) f cd A outer s H E p) (defBody st) t ∧ t { nx := fun _ H' => Q .non H', rt := Q } (L2.start N vs) H) :
    codeAny (model P w) A (.call (.ref f) args) (CR CX outer P w H s Q E) s := by
  obtain ⟨_, _, _, _, _, _, cd, _, _, e, lk, hcd⟩ := F.ex; subst e
  have KX : K.In s.heap := e0.mod.kin.keeps fun b o e => (e0.bs b o e).1; have lim : s.heap.NoLimit := e0.mod.nolimit.keeps fun b o e => (e0.bs b o e).1
  have hkind : ∀ y ∈ ps.zip us, (defScope st).names.lookup y.1 = some .local ∨ ((defScope st).names.lookup y.1 = some .cell ∧ ((cellsFrom (s.heap.objs.size + 1) (defScope st).names []).lookup y.1).isSome = true) := fun ⟨n, v⟩ hy => (S.par n (List.of_mem_zip hy).1).imp id fun q => ⟨q, PySem.W.cellsFrom_some _ _ _ (.inl q)⟩
  refine codeAny_call_function hr.depth (KX _ _ lk) rfl S.co S.gen rfl (PySem.W.codeRec_of KX hcd) (hb _ _ _ _ (wpAny_newFunctionEnv_cells S.kind hkind fun env he s1 x => ?_)); subst he
  refine ⟨lim.keeps x.toInCall.keep, codeAny_func ?_⟩
  obtain ⟨t, ht, hq⟩ := body cd (hr.deeper _)
  refine wpAny_mono (ht.run [] s1 (L2.start N vs) H _ (inv_startH S pin e0 hl r x) hq) (fun fl s' hs => ?_) fun e s' hs => hs
  have fin : ∀ {σ' : L2.St} {H' : Hp} {v : V} {u : Value}, Inv (cxH CX P w K mg base N qual (defScope st) f cd A outer s H E p) [] σ' H' s' → RelV v u → Q v H' → CE outer P w H s Q u s' := fun {σ' H' v u} J rv q => ⟨v, H', J.os, J.bare, J.base, J.hok, rv, q⟩
  cases fl with
  | ret u => exact let ⟨v, σ', H', J, rv, q⟩ := hs; fin J rv q
  | next => exact let ⟨σ', H', J, q⟩ := hs; fin (v := V.non) (u := Value.none) J rfl q
  | brk => exact let ⟨_, _, _, q⟩ := hs; q.elim
  | cont => exact let ⟨_, _, _, q⟩ := hs; q.elim
/-- the call of a def with the exception that is handled -/
theorem pe_callP {X : Cx} {x qual y : Str} {st : Stmt} {f : Addr} {fd : FuncData} {N : List Str} {k i : Nat} {Q0 : Addr → Hp → VK → Prop} {p q pos : Pos} {pp : Addr × Obj} {e : Expr} (F : Fun X.K x qual st f fd) (S : FnScope N [y] (defScope st)) (hr : RoomH (k + 1) X.A) (hp : pp ∈ X.pn)
    (hg : Gl X x) (hm : X.mg x = some (.ref f)) (hk : PySem.W.keepIn X.K (.ref f) = true) (hb : Binds X.K fd [y] []) (he : PE X e (tVar i))
    (body : ∀ (A : Around) (outer : List PySem.Env) (s : Shared) (H : Hp) (Q : VK) (cd : Value), A.handled = X.A.handled → RoomH k (A.deeper (envOfC qual (defScope st) s.heap.objs.size f cd)) → H pp.1 = none → Q0 pp.1 H Q →
      ∃ t, PSs (cxH CXf X.prog X.w X.K X.mg X.base N qual (defScope st) f cd A outer s H (fun _ _ _ => False) pp) (defBody st) t ∧ t { nx := fun _ H' => Q .non H', rt := Q } (L2.start N [.ref pp.1]) H)
    (hdb : (x == ("__debug__" : Str)) = false := by decide) (hst : starEach [e] X.env = (false, eval e X.env) :: starEach [] X.env := by rfl) (hpl : (backTo pos (starEach [] X.env)).any (·.1) = false := by rfl) :
    PE X (.Call (.Name x p) [e] [] pos) (fun σ H Q => σ[i]? = some (some (.ref pp.1)) ∧ H pp.1 = none ∧ Q0 pp.1 H Q) := ⟨fun pins s σ H Q I ⟨h1, h2, h3⟩ => by
  refine wpAny_Call_Name_kw (ld_glob I hg hm ?_ hdb)
  refine PySem.W.callWith_K (h₀ := X.base) I.ok.mod.kin hk (thn ((pa_cons he pa_nil hst).run pos pins s σ H (fun vs H1 => vs = [.ref pp.1] ∧ H1 = H) I ⟨_, h1, rfl, rfl⟩) fun us s1 ⟨vs, H1, I1, r, ev, eH⟩ => ⟨I1.kIn, ?_⟩) hst hpl
  subst ev; rw [eH] at I1
  have P1 := I1.pin pp (List.mem_append_left _ hp)
  have hpin : PinOk X.stack H s1 pp := ⟨P1.1, P1.2.1, fun hm => (List.mem_cons.mp (I1.stkSub pp.1 hm)).elim P1.2.2.1 P1.2.2.2.1, P1.2.2.2.2⟩
  have hl : us.length = [y].length := r.length.symm
  have b := hb s1 us I1.kIn (by rw [List.append_nil]; exact hl)
  rw [List.append_nil] at b
  refine wpAny_call (codeAny_mono (run_pin (CX := CXf) (E := fun _ _ _ => False) F S hr hpin I1.env0 b r rfl fun cd hr' => body X.A X.stack s1 H Q cd rfl hr' P1.2.1 h3) fun r s' hq => ?_)
  match r, hq with
  | .ok (.ret u), hq => exact I1.after hq⟩
end
end Dt

set_option Elab.async false
set_option linter.all false
set_option maxRecDepth 100000
set_option maxHeartbeats 4000000
/-! A lambda without parameters, handed to a def that calls it and tells the word of the exception that comes. -/
namespace Dt
open PySem PySem.Spec PyProof.Rows L2 HotX L2H
/-- what of the environment is frozen data -/
def froOnly (ρ : Env) : Env := ρ.map fun c => match c with
  | .fro d => .fro d
  | _ => .no
theorem froOnly_at {ρ : Env} {i : Nat} {c : Cell} (h : (froOnly ρ)[i]? = some c) : c = .no ∨ ∃ d, c = .fro d ∧ ρ[i]? = some (.fro d) := by
  unfold froOnly at h
  rw [List.getElem?_map] at h
  cases e : ρ[i]? with
  | none => rw [e] at h; cases h
  | some c' =>
    rw [e] at h
    cases c' with
    | fro d => cases h; exact .inr ⟨d, rfl, rfl⟩
    | _ => cases h; exact .inl rfl
section
variable {T : List (Addr × Str)} {K : PySem.W.Frag} {io : Io T} {Rv F R' : Hp} {ρ : Env} {σ : L2.St} {H H1 : Hp}
theorem Rel.fros (r : Rel K io Rv ρ F σ H) (ap : Apart F R' H) : Rel K ({} : Io []) R' (froOnly ρ) F σ H := by
  have nh : ∀ {i : Nat} {c : Cell} {d : D}, (froOnly ρ)[i]? = some c → c.held = some d → False := fun {i c d} e h => by
    rcases froOnly_at e with rfl | ⟨_, rfl, _⟩ <;> cases h
  refine ⟨ap.f, ap.r, ap.d, by unfold froOnly; rw [List.length_map]; exact r.len, fun i c v e1 e2 => ?_, fun i j ci cj di dj p e1 _ h1 _ _ _ => (nh e1 h1).elim, fun ip hip => (nomatch hip), fun i d e => (nh e rfl).elim, fun t ht => (nomatch ht), ap.nt⟩
  rcases froOnly_at e1 with rfl | ⟨d, rfl, e3⟩
  · trivial
  · exact r.cell i _ v e3 e2
/-- a code object was made, the table grew -/
theorem Rel.tabled {P : Addr} {q : Str} {io : Io [(P, q)]} (r : Rel K io Rv ρ F σ H) (x : LamX.ExtN H H1) (tb : LamX.Tabs [(P, q)] H1) : ∃ F1, FLe F F1 ∧ Rel K io Rv ρ F1 σ H1 := by
  classical
  have tk := r.tab (P, q) (.head _)
  obtain ⟨tF, tR, nx, ps, tH, _⟩ := id tk
  obtain ⟨ps1, b1, b2, b3⟩ := tb (P, q) (.head _)
  have b1 : H1 P = some (.tbl ps1) := b1
  have fup : ∀ {a o}, F a = some o → H1 a = some o := fun {a o} e => x a o (r.fH a o e) fun ps z => r.nt a ps (by rw [e, z])
  have rup : ∀ {a o}, Rv a = some o → H1 a = some o := fun {a o} e => x a o (r.rH a o e) fun ps z => nx.1 a ps (by rw [e, z])
  let F1 : Hp := fun a => if H1 a = some (LamX.CodeO a q) then H1 a else F a
  have yes : ∀ {a}, H1 a = some (LamX.CodeO a q) → F1 a = some (LamX.CodeO a q) := fun {a} e => (if_pos e).trans e
  have no : ∀ {a}, H1 a ≠ some (LamX.CodeO a q) → F1 a = F a := fun {a} e => if_neg e
  have le : FLe F F1 := fun a o e => by
    by_cases h : H1 a = some (LamX.CodeO a q)
    · rw [yes h, ← h]; exact fup e
    · rw [no h]; exact e
  have own : ∀ {p d}, OwnAt K F Rv H p d → OwnAt K F1 Rv H1 p d := fun {p d} w => by
    obtain ⟨o, e, ob⟩ := w.at_
    have e1 : H1 p = some o := x p o e (ob.nt default).1
    refine ⟨?_, w.nR, o, e1, ob.mono le⟩
    rw [no (fun z => by rw [e1] at z; exact ob.nx q (Option.some.inj z))]
    exact w.nF
  refine ⟨F1, le, fun a o e => ?_, fun a o e => rup e, fun a o e => ?_, r.len, fun i c v e1 e2 => ?_, r.inj, r.ios, r.ioc, fun t ht => ?_, fun a ps z => ?_⟩
  · by_cases h : H1 a = some (LamX.CodeO a q)
    · rw [yes h] at e; rw [h]; exact e
    · rw [no h] at e; exact fup e
  · by_cases h : H1 a = some (LamX.CodeO a q)
    · cases e2 : Rv a with
      | none => rfl
      | some o' => have z := rup e2; rw [h] at z; cases z; exact (nx.2 a q e2).elim
    · rw [no h] at e; exact r.dj a o e
  · have k := r.cell i c v e1 e2
    cases c with
    | no => trivial
    | fro d => obtain ⟨y, e, rp⟩ := k; exact ⟨y, e, rp.mono le⟩
    | own d => obtain ⟨p, e, w⟩ := k; exact ⟨p, e, own w⟩
    | io d => obtain ⟨p, e, w⟩ := k; exact ⟨p, e, own w⟩
  · have et : t = (P, q) := List.mem_singleton.mp ht
    subst et
    refine ⟨?_, tR, nx, ps1, b1, b2, fun pos cv hc => ?_⟩
    · show F1 P = none
      rw [no (fun z => by rw [b1] at z; exact LamX.codeO_ne ps1 (Option.some.inj z).symm)]
      exact tF
    · obtain ⟨c, e, k⟩ := b3 pos cv hc
      exact ⟨c, e, yes k⟩
  · by_cases h : H1 a = some (LamX.CodeO a q)
    · rw [yes h] at z; exact LamX.codeO_ne ps (Option.some.inj z)
    · rw [no h] at z; exact r.nt a ps z
theorem Rel.tabsOf {P : Addr} {q : Str} {io : Io [(P, q)]} (r : Rel K io Rv ρ F σ H) : LamX.Tabs [(P, q)] H := fun p hp => by
  have e : p = (P, q) := List.mem_singleton.mp hp
  subst e
  obtain ⟨_, _, _, ps, e1, e2, e3⟩ := r.tab (P, q) (.head _)
  exact ⟨ps, e1, e2, fun pos cv h => let ⟨c, e, k⟩ := e3 pos cv h; ⟨c, e, r.fH _ _ k⟩⟩
end
/-! ### the lambda's body -/
abbrev lamCxN (X : Cx) (A : Around) (outer : List PySem.Env) (s : Shared) (H : Hp) (E : XK) (scope : Scope) (f c : Addr) : Cx :=
  (LamX.lamCx X A outer s H E scope f c).tr [] fun e s' => wpAny (model X.prog X.w) (A.deeper (LamX.lamEnv X scope s.heap.objs.size f c)) (leaving (LamX.lamEnv X scope s.heap.objs.size f c) e) (fun _ s'' => L2N.CX X.prog X.w outer H s E e s'') (fun e' s'' => L2N.CX X.prog X.w outer H s E e' s'') s'
section
variable {X : Cx} {pins : List (Addr × Obj)} {σ : L2.St} {H : Hp} {s : Shared}
theorem at_lam {A : Around} {outer : List PySem.Env} {E : XK} {scope : Scope} {f c : Addr} {k : Nat} (nd : X.N.Nodup) (hr : Room k (A.deeper (LamX.lamEnv X scope s.heap.objs.size f c))) : At (lamCxN X A outer s H E scope f c) (wE E) :=
  ⟨rfl, nd, hr.units, L2N.takes_of (E₁ := fun e' s'' => L2N.CX X.prog X.w outer H s E e' s'') rfl rfl rfl rfl⟩
/-- the call of what the def got: the lambda's body runs -/
theorem pe_actN {CXg : CXT} {Eg : XK} {Ng : List Str} {qg : Str} {sg : Scope} {g f c : Addr} {cdg pm ctv : Value} {params : Arguments} {body : Expr} {scope : Scope} {k i : Nat} {a : Str} {pn : List (Addr × Obj)} {xe : Value → Shared → Prop} {W : WX} {E : XK} {tb : TE} {p1 p2 : Pos}
    (I : Inv X pins σ H s) (L : LamX.LamS X.env.scope scope) (hf : s.heap.get? f = some (PySem.W.kla_obj "<lambda>" (X.env.qual ++ "<lambda>") params body scope (cloFrom X.env.cells scope.names []) pm c ctv)) (hfn : H f = none) (hfr : f ∉ frs X.stack)
    (hbind : bindArgs (PySem.W.kla_fn "<lambda>" (X.env.qual ++ "<lambda>") params body scope (cloFrom X.env.cells scope.names []) pm (.ref c) ctv) ⟨[], []⟩ = pure [])
    (tk : L2N.Takes ((cxOf CXg X.prog X.w X.K X.mg X.base Ng qg sg g cdg X.A X.stack s H Eg).tr pn xe) W) (hr : Room (k + 1) (X.A.deeper (envOfC qg sg s.heap.objs.size g cdg)))
    (hbody : ∀ (A : Around) (outer : List PySem.Env) (s : Shared) (H : Hp), Room k (A.deeper (LamX.lamEnv X scope s.heap.objs.size f c)) → PE (lamCxN X A outer s H E scope f c) body tb)
    (hN : Ng[i]? = some a) (hv : Vis sg a) (hd : (a == ("__debug__" : Str)) = false := by decide) (hcd : (a == ("__classdict__" : Str)) = false := by decide) :
    PE ((cxOf CXg X.prog X.w X.K X.mg X.base Ng qg sg g cdg X.A X.stack s H Eg).tr pn xe) (.Call (.Name a p1) [] [] p2)
      (fun σZ HZ Q => (∀ cls d H', E cls d H' → W cls d σZ H') ∧ σZ[i]? = some (some (.ref f)) ∧ HZ c = some (LamX.CodeO c (X.env.qual ++ "<lambda>")) ∧ tb σ HZ Q) := ⟨fun pinsZ sZ σZ HZ Q IZ ⟨hW, hs, hc, ht⟩ => by
  refine wpAny_Call_Name_kw (thn ((pe_var (pos := p1) (i := i) hN hv hd hcd).run pinsZ sZ σZ HZ (fun v H1 => v = .ref f ∧ H1 = HZ) IZ ⟨.ref f, hs, rfl, rfl⟩) fun u s1 ⟨v, H1, I1, r1, ev, eH⟩ => ?_); subst ev
  rw [eH] at I1; obtain rfl : u = Value.ref f := r1
  have of1 := I1.base.keep f _ hf hfn hfr (fun z => nomatch (show f ∈ ([] : List Addr) from z)); refine PySem.W.callWith_F0 ⟨_, _, _, _, of1⟩ ?_
  obtain ⟨⟨oc, vs, t, hoc, hdc, hvc⟩, _, _⟩ := I1.hok c _ hc; have e0 := I1.env0
  have rc : codeAny (model X.prog X.w) (X.A.deeper (envOfC qg sg s.heap.objs.size g cdg)) (.call (.ref f) ⟨[], []⟩) (CR (L2N.CX X.prog X.w) (envOfC qg sg s.heap.objs.size g cdg :: X.stack) X.prog X.w HZ s1 Q E) s1 := by
    refine PySem.W.kla_callFunE hr.depth of1 rfl L.co L.gen rfl ⟨c, oc, vs, t, rfl, hoc, hdc, hvc⟩ (hbind ▸ wpAny_pure (wpAny_newFunctionEnv (fun y hy => (L.own y hy).2) (fun y hy => nomatch hy) (fun h₁ hns hsb => ⟨I1.nolimit.fresh _ hsb, ?_⟩) L.kind))
    have J0 : Inv (LamX.lamCx X (X.A.deeper (envOfC qg sg s.heap.objs.size g cdg)) (envOfC qg sg s.heap.objs.size g cdg :: X.stack) s1 HZ E scope f c) [] σ HZ { s1 with heap := h₁, toks := s1.toks + ([] : List (Str × Value)).length } := LamX.lam_start2 I L e0 hr.hd I1.base hns fun b o e => hsb.extBut b o (Nat.ne_of_lt (Heap.lt_size e)) (Heap.get?_push_of_some _ e)
    have J := J0.toTry (lamCxN X (X.A.deeper (envOfC qg sg s.heap.objs.size g cdg)) (envOfC qg sg s.heap.objs.size g cdg :: X.stack) s1 HZ E scope f c).xe
    exact PySem.W.kla_codeExpr (wpAny_mono ((hbody _ _ s1 HZ (hr.deeper _)).run [] _ _ HZ Q J ht) (fun v s' ⟨w', H', J', rv, q⟩ => ⟨w', H', J'.os, J'.bare, J'.base, J'.hok, rv, q⟩) fun e s' hq => hq)
  refine wpAny_call (codeAny_mono rc fun r s' hq => ?_)
  match r, hq with
  | .error e, hq => exact tk e s' (L2N.XE.of_call I1 hW hq)
  | .ok (.ret u), hq => exact I1.after hq⟩
end
end Dt

set_option Elab.async false
set_option linter.all false
set_option maxRecDepth 100000
set_option maxHeartbeats 4000000
/-! tried(lambda: e): its value, or the word of the exception. -/
namespace Dt
open PySem PySem.Spec PyProof.Rows L2 HotX L2H
/-- a def that tells the word of the exception that is handled -/
structure WordAt (P : Program) (w : World) (K : PySem.W.Frag) (mg : Str → Option Value) (base : Heap) (k : Nat) (x : Str) (Good : Addr → Str → Prop) : Prop where
  there : ∃ (f : Addr) (fd : FuncData) (y : Str), mg x = some (.ref f) ∧ PySem.W.keepIn K (.ref f) = true ∧ Binds K fd [y] [] ∧
    ∀ (A : Around) (outer : List PySem.Env) (s : Shared) (H : Hp) (args : Args) (us : List Value) (Q : VK) (p : Addr × Obj) (C : Addr) (wd : Str), RoomH k A → Hot1 A p → PinOk outer H s p → Env0 P w K mg base A outer s H → BindsTo s fd args ([y].zip us) → Vals [.ref p.1] us →
      Zc (.ref C) none p.2 → Good C wd → (∀ H', (∀ b o, H b = some o → H' b = some o) → Q (.str wd) H') → codeAny (model P w) A (.call (.ref f) args) (CR CXf outer P w H s Q fun _ _ _ => False) s
/-- .. by its body's derivation -/
theorem word_at {P : Program} {w : World} {K : PySem.W.Frag} {mg : Str → Option Value} {base : Heap} {k m : Nat} {x y : Str} {st : Stmt} {N : List Str} {ea : String → Addr} {Good : Addr → Str → Prop} {W : WX} (F : Fn K mg x st [y]) (S : FnScope N [y] (defScope st)) (hm : N.length = m + 1)
    (h : ∀ (f : Addr) (cd : Value) (A : Around) (outer : List PySem.Env) (s : Shared) (H : Hp) (p : Addr × Obj) (C : Addr) (wd : Str), Hot1 A p → RoomH k (A.deeper (envOfC x (defScope st) s.heap.objs.size f cd)) → Zc (.ref C) none p.2 → Good C wd →
      ∃ body : SS, DSs ⟨K, ⟨ea, []⟩⟩ (cxH CXf P w K mg base N x (defScope st) f cd A outer s H (fun _ _ _ => False) p) W (defBody st) body ∧ ∃ ρ', body (.fro (.exn p.1) :: List.replicate m .no) = .ok (.rt (.str wd)) ρ') : WordAt P w K mg base (k + 1) x Good := by
  obtain ⟨f, fd, F, mx, hb⟩ := F.there
  refine ⟨f, fd, y, mx, F.kp, hb, fun A outer s H args us Q p C wd hr hot pin e0 b r hz g q => run_pin F S hr pin e0 b r rfl fun cd hr' => ?_⟩
  obtain ⟨body, d, ρ', e⟩ := h f cd A outer s H p C wd hot hr' hz g
  refine ⟨_, d, .fro (.exn p.1) :: List.replicate m .no, fun _ => none, H, {}, ⟨(fun a o z => nomatch z), (fun a o z => z), (fun a o z => nomatch z), ?_, fun i c v e1 e2 => ?_, fun i j ci cj di dj pp e1 _ h1 _ _ _ => ?_, fun ip hip => (nomatch hip), fun i d e1 => ?_, fun t ht => (nomatch ht), fun a ps z => nomatch z⟩, ?_⟩
  · unfold L2.start
    simp [hm]
  · cases i with
    | zero =>
      simp [L2.start] at e1 e2
      subst e1 e2
      exact ⟨_, rfl, .exn _⟩
    | succ i =>
      rw [List.getElem?_cons_succ, List.getElem?_replicate] at e1
      split at e1
      · cases e1; trivial
      · cases e1
  · cases i with
    | zero => cases e1; cases h1
    | succ i =>
      rw [List.getElem?_cons_succ, List.getElem?_replicate] at e1
      split at e1
      · cases e1; cases h1
      · cases e1
  · cases i with
    | zero => cases e1
    | succ i =>
      rw [List.getElem?_cons_succ, List.getElem?_replicate] at e1
      split at e1 <;> cases e1
  · rw [e]
    intro v σ' H' F' le rel rp
    cases rp
    exact q H' fun b o z => rel.rH b o z
/-- the value, or what the exception makes -/
def sTried (wd : Exn → Option D) (s : SE) : SE := fun ρ => match s (froOnly ρ) with
  | .ok d _ => .ok d ρ
  | .exc x _ => ofO (wd x) ρ
  | .stuck => .stuck
@[simp] theorem ev_tried (wd : Exn → Option D) (s : SE) (ρ : Env) : sTried wd s ρ = match s (froOnly ρ) with
  | .ok d _ => .ok d ρ
  | .exc x _ => ofO (wd x) ρ
  | .stuck => .stuck := rfl
section
variable {X : Cx} {W : WX}
theorem d_tried {c P CE : Addr} {k kw : Nat} {ea : String → Addr} {xt xw : Str} {tc tw : Str} {te : Str} {stt : Stmt} {Good : Addr → Str → Prop} {wd : Exn → Option D} {params : Arguments} {body : Expr} {scope : Scope} {sb : SE} {p lpos pos p1 p2 p3 p4 p5 p6 p7 p8 p9 p10 : Pos}
    (hu : At X W) (tb : LamX.TabB X.base X.mg c P) (hcd : X.env.code = .ref c) (Ft : Fn X.K X.mg xt stt [tc]) (St : FnScope [tc, te] [tc] (defScope stt)) (hr : Room (k + 2) X.A) (hg : Gl X xt)
    (hbd : defBody stt = [.Try [.Return (some (.Call (.Name tc p1) [] [] p2)) p3] [.ExceptHandler (some (.Name tw p4)) (some te) [.Return (some (.Call (.Name xw p5) [.Name te p6] [] p7)) p8] p9] [] [] p10])
    (hce : X.mg tw = some (.ref CE)) (gce : (defScope stt).names.lookup tw = some .globalImplicit) (gxw : (defScope stt).names.lookup xw = some .globalImplicit) (vtc : (defScope stt).names.lookup tc = some .local) (vte : (defScope stt).names.lookup te = some .local)
    (Wd : WordAt X.prog X.w X.K X.mg X.base kw xw Good) (hkw : kw ≤ k) (hwd : ∀ x d, wd x = some d → x.arg = .non ∧ PySem.W.exmOne X.K (.ref (ea x.cls)) (.ref CE) = some true ∧ ∃ w, d = .str w ∧ Good (ea x.cls) w)
    (L : LamX.LamS X.env.scope scope) (hdef : defaultsOf params X.env = ([], [])) (hbind : ∀ (q : Str) (cl : List (Str × Addr)) (pm cv ctv : Value), bindArgs (PySem.W.kla_fn "<lambda>" q params body scope cl pm cv ctv) ⟨[], []⟩ = pure [])
    (hbody : ∀ (A : Around) (outer : List PySem.Env) (s : Shared) (H : Hp) (E : XK) (f c' : Addr), Room k (A.deeper (LamX.lamEnv X scope s.heap.objs.size f c')) → DE ⟨X.K, ⟨ea, []⟩⟩ (lamCxN X A outer s H E scope f c') (wE E) body sb)
    (d1 : (xt == ("__debug__" : Str)) = false := by decide) (d2 : (tc == ("__debug__" : Str)) = false := by decide) (d3 : (tc == ("__classdict__" : Str)) = false := by decide) (d4 : (tw == ("__debug__" : Str)) = false := by decide) (d5 : (xw == ("__debug__" : Str)) = false := by decide) (d6 : (te == ("__debug__" : Str)) = false := by decide)
    (d7 : (te == ("__classdict__" : Str)) = false := by decide) :
    DE ⟨X.K, ⟨ea, [(P, X.env.qual ++ "<lambda>")]⟩⟩ X W (.Call (.Name xt p) [.Lambda params body scope lpos] [] pos) (sTried wd sb) := ⟨fun pins s σ H Q I ⟨ρ, F, Rv, io, rel, q⟩ => by
  obtain ⟨g, fdg, Ff, hm, hb⟩ := Ft.there
  obtain ⟨fw, fdw, yw, mw, kpw, bw, runw⟩ := Wd.there
  refine wpAny_Call_Name_kw (ld_glob I hg hm ?_ d1)
  refine PySem.W.callWith_K (h₀ := X.base) I.ok.mod.kin Ff.kp ?_ (by rfl) (by rfl)
  show wpAny _ _ (spliced ((false, eval (.Lambda params body scope lpos) X.env) :: backTo pos (starEach [] X.env))) _ _ s
  have rel : Rel X.K io Rv ρ F σ H := rel
  refine Calls.spliced_cons (LamX.lam_make2 (T := [(P, X.env.qual ++ "<lambda>")]) I tb hcd (.head _) (fun p hp _ => by rw [List.mem_singleton.mp hp]) rel.tabsOf hdef (L.has I.ok) fun f c' pm' ctv H1 s' I1 eN T1 hf hfn hfr hco => ?_)
  refine Calls.spliced_nil ⟨I1.kIn, ?_⟩
  obtain ⟨F1, le1, rel1⟩ := rel.tabled eN T1
  have rel2 := rel1.fros (restOf_apart rel1 none)
  obtain ⟨_, _, _, _, _, _, cdv, _, _, ef, lk, hcg⟩ := Ff.ex
  -- what comes back
  have fin : ∀ {F' H' : Hp} {v : V} {d : D} , FLe F1 F' → Apart F' (restOf F1 H1 none) H' → Rp X.K F' v d → (match sTried wd sb ρ with | .ok d' _ => d' = d | _ => False) → Q v H' := fun {F' H' v d} le ap rp hd => by
    have r3 := rel1.behind le ap
    unfold sTried at q hd
    cases e : sb (froOnly ρ) with
    | stuck => rw [e] at q; exact q.elim
    | ok d' ρ' => rw [e] at q hd; cases hd; exact q v H' F' (le1.trans le) r3 rp
    | exc x ρ' =>
      rw [e] at q hd
      simp only at q hd
      cases e2 : wd x with
      | none => rw [e2] at q; exact q.elim
      | some d' => rw [e2] at q hd; cases hd; exact q v H' F' (le1.trans le) r3 rp
  have rc : codeAny (model X.prog X.w) X.A (.call (.ref g) ⟨[.ref f], []⟩) (CR CXf X.stack X.prog X.w H1 s' Q fun _ _ _ => False) s' := by
    subst ef
    refine LamX.run_ofS (N := [tc, te]) (ps := [tc]) (us := [.ref f]) (vs := [.ref f]) lk hcg St hr I1.env0 (hb s' [.ref f] I1.kIn rfl) (.cons rfl .nil) rfl fun hr' => ?_
    have hbd' : defBody stt = _ := hbd
    rw [hbd']
    refine ⟨_, pss_one (L2N.ps_try_as (X := cxOf CXf X.prog X.w X.K X.mg X.base [tc, te] xt (defScope stt) g cdv X.A X.stack s' H1 fun _ _ _ => False) (i := 1) (n := te) (c := .ref CE) (Wout := fun _ _ _ _ => False)
      (tb := fun W D σZ HZ => ∃ E : XK, (∀ cls d H', E cls d H' → W cls d σZ H') ∧ σZ[0]? = some (some (.ref f)) ∧ HZ c' = some (LamX.CodeO c' (X.env.qual ++ "<lambda>")) ∧ tE ⟨X.K, ⟨ea, []⟩⟩ (wE E) sb σ HZ D.rt)
      (ts := fun a cls d D σ H => ∃ C w, cls = .ref C ∧ d = none ∧ Good C w ∧ σ[1]? = some (some (.ref a)) ∧ H a = none ∧ ∀ H', (∀ b o, H b = some o → H' b = some o) → D.rt (.str w) H')
      rfl rfl St.nd rfl vte ⟨gce, d4, .inl hce⟩ takes0N (fun W pn xe tk _ => ?_) (fun a oe cls d pn hz hfl => ?_)), ?_⟩
    · refine ⟨fun pins s2 σ2 H2 D I2 ⟨E, hW, h1, h2, h3⟩ => ?_⟩
      have hp := pe_actN (i := 0) (a := tc) (E := E) (p1 := p1) (p2 := p2) I1 L hf hfn hfr (hbind _ _ _ _ _) tk hr' (fun A outer s H hr2 => hbody A outer s H E f c' hr2) rfl (.inl vtc) d2 d3
      exact (pss_one (ps_ret (pos := p3) hp)).run pins s2 σ2 H2 D I2 ⟨hW, h1, h2, h3⟩
    · refine ⟨fun pins s2 σ2 H2 D I2 ⟨C, w, e1, e2, gd, h1, h2, h3⟩ => ?_⟩
      subst e1 e2
      obtain ⟨vs, hv⟩ := hfl
      have hot : Hot1 ((cxOf CXf X.prog X.w X.K X.mg X.base [tc, te] xt (defScope stt) g cdv X.A X.stack s' H1 fun _ _ _ => False).suite a ((a, oe) :: pn)).A (a, oe) := ⟨rfl, vs, hv, hz.2.2 vs hv⟩
      have hrm : RoomH kw ((cxOf CXf X.prog X.w X.K X.mg X.base [tc, te] xt (defScope stt) g cdv X.A X.stack s' H1 fun _ _ _ => False).suite a ((a, oe) :: pn)).A := by
        have z := (roomH_of hr').mono (show kw ≤ k + 1 by omega)
        exact ⟨z.dp, z.un⟩
      have call : PE ((cxOf CXf X.prog X.w X.K X.mg X.base [tc, te] xt (defScope stt) g cdv X.A X.stack s' H1 fun _ _ _ => False).suite a ((a, oe) :: pn)) (.Call (.Name xw p5) [.Name te p6] [] p7)
          (fun σ H Q => σ[1]? = some (some (.ref a)) ∧ ∀ H', (∀ b o, H b = some o → H' b = some o) → Q (.str w) H') := ⟨fun pins s σ H Q I ⟨h1, h3⟩ => by
        refine wpAny_Call_Name_kw (ld_glob I gxw mw ?_ d5)
        refine PySem.W.callWith_K (h₀ := X.base) I.ok.mod.kin kpw (thn ((pa_cons (pe_var (i := 1) rfl (.inl vte) d6 d7) pa_nil rfl).run p7 pins s σ H (fun vs H1 => vs = [.ref a] ∧ H1 = H) I ⟨_, h1, rfl, rfl⟩) fun us s1 ⟨vs, H1, I1, r, ev, eH⟩ => ⟨I1.kIn, ?_⟩) (by rfl) (by rfl)
        subst ev; rw [eH] at I1
        have P1 := I1.pin (a, oe) (List.mem_append_left _ (.head _))
        have b := bw s1 us I1.kIn (by rw [List.append_nil]; exact r.length.symm)
        rw [List.append_nil] at b
        refine wpAny_call (codeAny_mono (runw _ _ s1 H _ us Q (a, oe) C w hrm hot ⟨P1.1, P1.2.1, fun hm => (List.mem_cons.mp (I1.stkSub a hm)).elim P1.2.2.1 P1.2.2.2.1, P1.2.2.2.2⟩ I1.env0 b r hz.zc gd h3) fun r s' hq => ?_)
        match r, hq with
        | .ok (.ret u), hq => exact I1.after hq⟩
      exact (pss_one (ps_ret (pos := p8) call)).run pins s2 σ2 H2 D I2 ⟨h1, h3⟩
    · refine ⟨fun cls dd H' => ∃ C w, cls = .ref C ∧ dd = none ∧ Good C w ∧ PySem.W.exmOne X.K cls (.ref CE) = some true ∧ ∀ H'', (∀ b o, H' b = some o → H'' b = some o) → Q (.str w) H'', fun cls d H' ⟨C, w, e1, e2, gd, em, h3⟩ => ⟨true, em, fun _ a na => ⟨C, w, e1, e2, gd, rfl, na, h3⟩, fun z => nomatch z⟩, rfl, hco, froOnly ρ, F1, restOf F1 H1 none, {}, rel2, ?_⟩
      cases e : sb (froOnly ρ) with
      | stuck => unfold sTried at q; rw [e] at q; exact q.elim
      | ok d ρ' => exact fun v H' F' le r rp => fin le ⟨r.fH, r.rH, r.dj, r.nt⟩ rp (by unfold sTried; rw [e])
      | exc x ρ' =>
        intro cls dd σ' H' F' le r xr
        cases e2 : wd x with
        | none => unfold sTried at q; rw [e] at q; simp only [e2] at q; exact q.elim
        | some d =>
          obtain ⟨eax, em, w, rfl, gd⟩ := hwd x d e2
          obtain ⟨xc, xd⟩ := xr
          rw [eax] at xd
          refine ⟨ea x.cls, w, xc, xd, gd, by rw [xc]; exact em, fun H'' up => fin (F' := F') (d := .str w) le ⟨fun a o z => up a o (r.fH a o z), fun a o z => up a o (r.rH a o z), r.dj, r.nt⟩ (.str w) ?_⟩
          unfold sTried
          rw [e]
          simp only [e2]
          rfl
  refine wpAny_call (codeAny_mono rc fun r s2 hq => ?_)
  match r, hq with
  | .ok (.ret u), hq => exact I1.after hq⟩
end
end Dt

set_option Elab.async false
set_option linter.all false
set_option maxRecDepth 100000
set_option maxHeartbeats 4000000
/-! The law's start where the law makes lambdas; what the classes say. -/
namespace Dt
open PySem PySem.Spec PyProof.Rows L2 HotX L2H
/-- what a class that is raised says; CE: the class of the handler -/
structure ExcD (K : PySem.W.Frag) (C CE : Addr) : Prop where
  e : PySem.W.excIn K C veB "ValueError.__new__" = true
  k : PySem.W.keepIn K (.ref C) = true
  b : PySem.W.subIn K (.ref C) (.type "BaseException") = some true
  t : PySem.W.typeIn K (.ref C) = some (.type "type")
  hg : PySem.W.findIn K (.ref C) "__getattribute__" = some (some (.builtin "BaseException.__getattribute__"))
  hk : PySem.W.findIn K (.ref C) "__getattr__" = some none
  hd : PySem.W.hasDictIn K C = true
  ha : PySem.W.findIn K (.ref C) "__class__" = some (some (.builtin "object.__class__"))
  hn : PySem.W.specialIn K (.builtin "object.__class__") "__get__" = some (some (.builtin "getset_descriptor.__get__"))
  ht : PySem.W.takesIn K (.builtin "object.__class__") = some true
  hm : PySem.W.mroIn K C (.type "object") = some true
  cb : PySem.W.subIn K (.ref CE) (.type "BaseException") = some true
  cd : PySem.W.hasDictIn K CE = true
  ct : PySem.W.typeIn K (.ref CE) = some (.type "type")
  cs : PySem.W.subIn K (.ref C) (.ref CE) = some true
theorem ExcD.c {K : PySem.W.Frag} {C CE : Addr} (h : ExcD K C CE) : ExcC K C := ⟨h.hg, h.hk, h.b, h.hd, h.ha, h.hn, h.ht, h.hm⟩
theorem ExcD.exm {K : PySem.W.Frag} {C CE : Addr} (h : ExcD K C CE) : PySem.W.exmOne K (.ref C) (.ref CE) = some true := PySem.W.exm_ref h.cb h.cd h.ct h.cs
theorem ExcD.kk {K : PySem.W.Frag} {mg : Str → Option Value} {CE : Addr} {n : String} (h : ExcD K (exA K n) CE) (m : mg (Str.ofString n) = some (.ref (exA K n))) : ExcK K mg n := ⟨m, h.e, h.k, h.b, h.t⟩
/-- what the lambdas of a def are called -/
def lamQ (x : Str) (st : Stmt) : Str := (envOfC x (defScope st) 0 0 .none).qual ++ "<lambda>"
/-- the law's promise where its table is empty -/
def spT (K : PySem.W.Frag) (P : Addr) (m : List D → FR) : Sp := fun vs H Q E => ∃ a ns o, vs = [.ref a] ∧ H P = some (.tbl #[]) ∧ SqL K H a (ns.map V.int) ∧ m [.scr ns] = .ok (.bl true) o ∧ ∀ H', Q (.bl true) H'
section
variable {P : Program} {w : World} {K : PySem.W.Frag} {mg : Str → Option Value} {base : Heap}
theorem law_T {x y : Str} {st : Stmt} {fa c Tb : Addr} {N : List Str} {k : Nat} {ea : String → Addr} {body : SS} {kV doc pm ct oc : Value} {an od : Option Addr} {osl : Array (Option Value)}
    (lk : K.lookup fa = some ⟨oc, od, .func (PySem.W.fnOf x x (defArgs st) (defBody st) (defScope st) .none kV doc pm an (.ref c) ct), osl⟩) (hcd : PySem.W.codeIn K (.ref c) x = true) (S : FnScope N [y] (defScope st))
    (h : ∀ (A : Around) (outer : List PySem.Env) (s : Shared) (H : Hp) (E : XK), Room k (A.deeper (envOfC x (defScope st) s.heap.objs.size fa (.ref c))) →
      DSs ⟨K, ⟨ea, [(Tb, lamQ x st)]⟩⟩ (cxOf (L2N.CX P w) P w K mg base N x (defScope st) fa (.ref c) A outer s H E) (wE E) (defBody st) body) :
    FnOk P w K mg base (L2N.CX P w) (k + 1) fa (PySem.W.fnOf x x (defArgs st) (defBody st) (defScope st) .none kV doc pm an (.ref c) ct) [y] (spT K Tb (runP N.length 1 body)) := by
  refine fn_of lk hcd S (fun vs H Q E ⟨a, _, _, e, _⟩ => by rw [e]; rfl) fun A outer s H vs Q E hr ⟨a, ns, o, ev, hT, hS, hm, q⟩ => ⟨_, h A outer s H E hr, ?_⟩
  subst ev
  classical
  let F : Hp := fun b => if ∃ ps, H b = some (.tbl ps) then none else H b
  have hF : ∀ {b u}, H b = some u → (∀ ps, u ≠ .tbl ps) → F b = some u := fun {b u} e n => (if_neg (fun ⟨ps, z⟩ => n ps (Option.some.inj (e.symm.trans z)))).trans e
  have fH : FLe F H := fun b u e => by
    by_cases z : ∃ ps, H b = some (.tbl ps)
    · rw [show F b = none from if_pos z] at e; cases e
    · rw [show F b = H b from if_neg z] at e; exact e
  have nt : NoTb F := fun b ps e => by
    have z : F b = none := if_pos ⟨ps, fH b _ e⟩
    rw [z] at e; cases e
  have sF : SqL K F a (ns.map V.int) := by
    rcases hS with (r | ⟨o, r⟩) | r
    · exact .inl (.inl (hF r fun _ z => nomatch z))
    · exact .inl (.inr ⟨o, hF r fun _ z => nomatch z⟩)
    · exact .inr r
  have e0 : L2.start N [.ref a] = [V.ref a].map some ++ List.replicate (N.length - 1) none := rfl
  rw [e0]
  have rp : Rps K F [V.ref a] [.scr ns] := .cons (.scr sF) .nil
  have r0 := rel_start (m := N.length - 1) (K := K) (Rv := fun _ => none) ⟨fH, (fun a o z => nomatch z), (fun _ _ _ => rfl), nt⟩ rp
  refine ⟨[D.scr ns].map Cell.fro ++ List.replicate (N.length - 1) Cell.no, F, fun _ => none, {}, ⟨r0.fH, r0.rH, r0.dj, r0.len, r0.cell, r0.inj, fun ip hip => (nomatch hip), (fun i d e => (nomatch fro_held (c := .io d) e)), fun t ht => ?_, nt⟩, ?_⟩
  · have et : t = (Tb, lamQ x st) := List.mem_singleton.mp ht
    subst et
    exact ⟨if_pos ⟨_, hT⟩, rfl, ⟨(fun a ps z => nomatch z), fun a q z => nomatch z⟩, #[], hT, trivial, fun pos cv z => by simp [codeAmong] at z⟩
  · unfold runP at hm
    have hm : (match body ([D.scr ns].map Cell.fro ++ List.replicate (N.length - 1) Cell.no) with | .ok (.rt d) _ => FR.ok d [] | .ok .nx _ => .ok .non [] | .exc x _ => .exc x | _ => .stuck) = .ok (.bl true) o := hm
    cases e : body ([D.scr ns].map Cell.fro ++ List.replicate (N.length - 1) Cell.no) with
    | stuck => rw [e] at hm; cases hm
    | exc x ρ' => rw [e] at hm; cases hm
    | ok fl ρ' =>
      rw [e] at hm
      cases fl with
      | rt d => cases hm; exact fun v σ' H' F' le rel rp => by cases rp; exact q H'
      | nx => cases hm
      | bk => cases hm
      | ct => cases hm
end
theorem walkT {xp : Str} {l : PySem.W.OpenLaw} {q : Program} {loose : List Str} {XP : (Str → Option Value) → Heap → Prop} {YP : World → Heap → Prop} {d : DefRec} {K : Params → PySem.W.Frag} {k : Nat} {m : List D → FR} (hn : l.most = some 63) (hdf : d.params.defaults = []) (hr : Room k callerA)
    (hrec : ((recsOf q).any fun e => e.name == d.name) = true) (hY : ∀ (w : World) (h : Heap), YP w h → (K w.params).In h)
    (F : ∀ (w : World) (mg : Str → Option Value) (fa : Addr) (h : Heap), (K w.params).In h → h.Ns mainGlobals mg → mg d.name = some (.ref fa) →
      ∃ (fd : FuncData) (c P : Addr) (o1 : Obj) (e : Value) (dd : Option Addr) (vs : Array Value) (sl : Array (Option Value)), (K w.params).lookup fa = some o1 ∧ o1.data = .func fd ∧ fd.code = .ref c ∧ (K w.params).lookup c = some ⟨e, dd, .fields vs, sl⟩ ∧ vs[11]? = some (.ref P) ∧
        PySem.W.codeHdIn (K w.params) c P = true ∧ (K w.params).lookup P = none ∧ (∀ (s : Shared) (u : Value), BindsTo s fd ⟨[u], []⟩ [(xp, u)]) ∧
        ∀ base : Heap, (K w.params).In base → base.Ns mainGlobals mg → LamX.TabB base mg c P → FnOk l.prog w (K w.params) mg base (L2N.CX l.prog w) k fa fd [xp] (spT (K w.params) P m))
    (plain : ∀ ns : List Int, ns.length ≤ 63 → (∀ z ∈ ns, Builtin.Int.intBits z ≤ 1048576) → ∃ o, m [.scr ns] = .ok (.bl true) o) :
    PySem.W.WalkO q loose XP YP l.row.toRowW d [] (fun f vs => PySem.call f vs) :=
  LamX.walk_ofOwn (n := 63) (k := k) (x := xp) (CX := fun w => L2N.CX l.prog w) hn (by decide) hdf hr hrec hY (fun w mg fa h Y KX G hmg own => by
    obtain ⟨fd, c, P, o1, e, dd, vs, sl, k1, k2, k3, k4, k5, k6, k7, hb, hF⟩ := F w mg fa h KX G hmg
    refine ⟨fd, [(c, P)], spT (K w.params) P m, fun p hp => ?_, fun p hp => ?_, fun p hp => ?_, hb, fun H a ns hl hbits hT hS => ?_, fun base kb gb hTB => hF base kb gb (hTB (c, P) (.head _))⟩
    · rw [List.mem_singleton.mp hp]; exact own c P o1 fd e dd vs sl k1 k2 k3 k4 k5
    · rw [List.mem_singleton.mp hp]; exact k7
    · rw [List.mem_singleton.mp hp]; exact PySem.W.codeHd_of_K KX k6
    · obtain ⟨o, z⟩ := plain ns hl hbits
      exact ⟨a, ns, o, rfl, hT (c, P) (.head _), hS, z, fun _ => rfl⟩) fun w H s e s' z => by
    obtain ⟨_, _, _, _, _, _, _, _, _, _, _, _, z⟩ := z
    exact z
end Dt

set_option Elab.async false
set_option linter.all false
set_option maxRecDepth 100000
set_option maxHeartbeats 4000000
/-! sorted(set(a)), a a list of texts. -/
namespace Dt
open PySem PySem.Spec PyProof.Rows L2
def keyT (e : Int × Value) : Str := match e.2 with
  | .str x _ => x
  | _ => Str.empty
def GoodT (w : World) (e : Int × Value) : Prop := ∃ x tk, e.2 = Value.str x tk ∧ e.1 = hashStr w x
/-- the set of texts at a: S its members, n their number; its table rises and can be walked -/
def SetS (w : World) (h : Heap) (a : Addr) (S : Str → Bool) (n : Nat) : Prop :=
  ∃ o es ep t, h.get? a = some o ∧ o.ExactSet ∧ o.data = .set es ep t ∧ (∀ e ∈ es.toList, GoodT w e) ∧ (es.toList.map keyT).Nodup ∧ (∀ k, S k = true ↔ k ∈ es.toList.map keyT) ∧ es.size < scanBound ∧ t.fits es.size = true ∧ es.size = n ∧ Ris t.place.toList ∧ (w.params.followText "set-order" = true ∨ t.led = true)
section
variable {P : Program} {w : World} {h h' : Heap} {a : Addr} {S : Str → Bool} {n : Nat}
theorem SetS.at_ (R : SetS w h a S n) (k : ∀ o, h.get? a = some o → h'.get? a = some o) : SetS w h' a S n := let ⟨o, es, ep, t, ho, r⟩ := R; ⟨o, es, ep, t, k o ho, r⟩
theorem SetS.congr {S' : Str → Bool} {n' : Nat} (R : SetS w h a S n) (e : ∀ k, S' k = S k) (en : n' = n) : SetS w h a S' n' := by
  rw [show S' = S from funext e, en]; exact R
theorem goodT_elems {l : List (Int × Value)} (g : ∀ e ∈ l, GoodT w e) : ElemsOf (PySem.strKind P w) l := fun e he => let ⟨k, tk, h1, h2⟩ := g e he; ⟨⟨k, by rw [h1]; exact strKind_is P w k tk, h2⟩, by rw [h1] <;> rfl⟩
theorem goodT_is {e : Int × Value} (g : GoodT w e) (k : Str) : (PySem.strKind P w).is k e.2 = true ↔ keyT e = k := by
  obtain ⟨k0, tk, h1, _⟩ := g; unfold keyT; rw [h1]
  refine ⟨fun z => ?_, fun z => by have z : k0 = k := z; subst z; exact strKind_is P w k0 tk⟩
  obtain ⟨t, e⟩ := Value.isStrOf_shape (x := k) (v := .str k0 tk) z; exact (Value.str.inj e).1
theorem goodT_mem {l : List (Int × Value)} (g : ∀ e ∈ l, GoodT w e) (k : Str) : k ∈ l.map keyT ↔ ∃ e ∈ l, (PySem.strKind P w).is k e.2 = true := by
  rw [List.mem_map]; exact ⟨fun ⟨e, he, q⟩ => ⟨e, he, (goodT_is (g e he) k).2 q⟩, fun ⟨e, he, q⟩ => ⟨e, he, (goodT_is (g e he) k).1 q⟩⟩
end
section
variable {P : Program} {w : World} {A : Around} {E : Value → Shared → Prop} {s : Shared} {a : Addr} {S : Str → Bool} {n : Nat}
theorem setS_tail {g : Bool → Sem Unit} (hg : ∀ (b : Bool) (s₁ : Shared) (Q' : Unit → Shared → Prop), Q' () s₁ → wpAny (model P w) A (g b) Q' E s₁) {o : Obj} {es : Array (Int × Value)} {ep : Nat} {t : SetTable} (ho : s.heap.get? a = some o) (hex : o.ExactSet) (hd : o.data = .set es ep t)
    {es1 : Array (Int × Value)} {t2 : SetTable} {S' : Str → Bool} (g1 : ∀ e ∈ es1.toList, GoodT w e) (nd1 : (es1.toList.map keyT).Nodup) (m1 : ∀ k, S' k = true ↔ k ∈ es1.toList.map keyT) (hb1 : es1.size < scanBound) (hf2 : t2.fits es1.size = true) (hr : Ris t2.place.toList)
    (hl : w.params.followText "set-order" = true ∨ t2.led = true) {wasDummy : Bool} {R : Option Bool → Shared → Prop} (hR : ∀ h', Heap.SameBut a s.heap h' → SetS w h' a S' es1.size → R (some true) { s with heap := h' }) :
    wpAny (model P w) A (do
        storeSet a es1 t2
        if (!wasDummy && t2.tooFull) = true then do
            g (relayAll t2 es1 (SetTable.grown es1.size)).2.2
            storeSet a (relayAll t2 es1 (SetTable.grown es1.size)).1 (relayAll t2 es1 (SetTable.grown es1.size)).2.1
            pure (some true)
          else pure (some true)) R E s := by
  refine wpAny_bind (wpAny_storeSet_of ho hd ?_ (fits_of_scanBound hb1))
  have sb1 := Heap.SameBut.update s.heap a (Obj.putSet es1 t2); have ho1 := store_at (es' := es1) (t' := t2) ho hd
  split
  · have pm := relayAll_perm t2 es1 (SetTable.grown es1.size); have hf3 := relayAll_fits t2 es1 (SetTable.grown es1.size)
    have hr3 := relayAll_ris t2 es1 (SetTable.grown es1.size); have hl3 := relayAll_led t2 es1 (SetTable.grown es1.size)
    generalize relayAll t2 es1 (SetTable.grown es1.size) = Z at pm hf3 hr3 hl3 ⊢
    obtain ⟨es2, t3, gave⟩ := Z; dsimp only at pm hf3 hr3 hl3 ⊢
    have hsz : es2.size = es1.size := (by rw [← Array.length_toList, pm.length_eq, Array.length_toList])
    refine wpAny_bind (hg _ _ _ (wpAny_bind (wpAny_storeSet_of ho1 rfl ?_ (fits_of_scanBound (hsz ▸ hb1)))))
    exact wpAny_pure (hR _ (sb1.trans (Heap.SameBut.update _ a _)) ⟨_, es2, _, t3, store_at (es' := es2) (t' := t3) ho1 rfl, hex, rfl, fun e he => g1 e (pm.mem_iff.mp he), (pm.map keyT).nodup_iff.mpr nd1, fun k => (m1 k).trans (pm.map keyT).mem_iff.symm, hsz ▸ hb1, hf3, hsz, hr3, hl.imp id fun z => hl3.trans z⟩)
  · exact wpAny_pure (hR _ sb1 ⟨_, es1, _, t2, ho1, hex, rfl, g1, nd1, m1, hb1, hf2, rfl, hr, hl⟩)
theorem setS_add {k : Str} {tk : Tok} {Q : Bool → Shared → Prop} (R : SetS w s.heap a S n) (room : n + 1 < scanBound)
    (hQ : ∀ h', Heap.SameBut a s.heap h' → SetS w h' a (fun j => S j || decide (j = k)) (if S k = true then n else n + 1) → Q (!S k) { s with heap := h' }) : wpAny (model P w) A (setAddHashed a (.str k tk) ((PySem.strKind P w).hash k)) Q E s := by
  obtain ⟨o, es, ep, t, ho, hex, hd, g, nd, hm, hb, hf, hn, hr, hl⟩ := R
  have hkey : (PySem.strKind P w).is k (.str k tk) = true := strKind_is P w k tk
  have hsc : (Value.str k tk).scannable = true := rfl
  have hel : ElemsOf (PySem.strKind P w) es.toList := goodT_elems g
  unfold setAddHashed setAddHashedIn; refine wpAny_holding (wpAny_bind (wpAny_setState_of ho hd hf ?_)); dsimp only
  rw [byScan_of hsc hb hel]; simp only [↓reduceIte]; unfold setAddByScan
  refine wpAny_bind (wpAny_bind (wpAny_rule (wpAny_bind (wpAny_setScan_of hkey ho hd hf hel ?_))))
  cases hfi : List.findIdx? (fun e => (PySem.strKind P w).is k e.2) es.toList with
  | some j =>
    dsimp only; obtain ⟨hj, pj, _⟩ := List.findIdx?_eq_some_iff_getElem.mp hfi
    have hSk : S k = true := (hm k).2 ((goodT_mem (P := P) g k).2 ⟨es.toList[j], List.getElem_mem hj, pj⟩)
    have q := hQ s.heap (Heap.SameBut.refl a s.heap) ⟨o, es, ep, t, ho, hex, hd, g, nd, (fun i => by rw [Bool.or_eq_true, decide_eq_true_eq, ← hm i]; exact ⟨fun z => z.elim id fun e => e ▸ hSk, .inl⟩), hb, hf, by rw [if_pos hSk]; exact hn, hr, hl⟩
    rw [hSk] at q; exact wpAny_pure (wpAny_pure q)
  | none =>
    dsimp only
    have hnk : k ∉ es.toList.map keyT := fun z => by
      obtain ⟨e, he, q⟩ := (goodT_mem (P := P) g k).1 z
      have c := List.findIdx?_eq_none_iff.mp hfi e he; rw [q] at c; cases c
    have hSk : S k = false := Bool.eq_false_iff.mpr fun q => hnk ((hm k).1 q)
    have hgw : ∀ (b : Bool) {s₁ : Shared} {Q' : Unit → Shared → Prop}, Q' () s₁ → wpAny (model P w) A (match b with | true => rule "set.scan.the-table-gave-way" | false => pure ()) Q' E s₁ := fun b s₁ Q' q => by cases b <;> first | exact wpAny_pure q | exact wpAny_rule q
    have pm := layNew_perm t es ((PySem.strKind P w).hash k) (.str k tk); have hf1 := layNew_fits t es ((PySem.strKind P w).hash k) (.str k tk)
    have hr1 := layNew_ris t es ((PySem.strKind P w).hash k) (.str k tk) hr; have hl1 := layNew_led t es ((PySem.strKind P w).hash k) (.str k tk)
    generalize layNew t es ((PySem.strKind P w).hash k) (.str k tk) = Z at pm hf1 hr1 hl1 ⊢
    obtain ⟨es1, t1, wasDummy, gave⟩ := Z; dsimp only at pm hf1 hr1 hl1 ⊢; rw [Array.toList_push] at pm
    have pc : es1.toList.Perm (((PySem.strKind P w).hash k, Value.str k tk) :: es.toList) := pm.trans (List.perm_append_singleton _ _)
    have pk : (es1.toList.map keyT).Perm (k :: es.toList.map keyT) := pc.map keyT
    have g1 : ∀ e ∈ es1.toList, GoodT w e := fun e he => (List.mem_cons.mp (pc.mem_iff.mp he)).elim (fun z => z ▸ ⟨k, tk, rfl, rfl⟩) (g e)
    have nd1 : (es1.toList.map keyT).Nodup := pk.nodup_iff.mpr (List.nodup_cons.mpr ⟨hnk, nd⟩)
    have m1 : ∀ i, (S i || decide (i = k)) = true ↔ i ∈ es1.toList.map keyT := fun i => (by rw [Bool.or_eq_true, decide_eq_true_eq, hm i, pk.mem_iff, List.mem_cons]; exact Or.comm)
    have hsz : es1.size = n + 1 := (by rw [← Array.length_toList, pc.length_eq, List.length_cons, Array.length_toList, hn])
    have hb1 : es1.size < scanBound := hsz ▸ room
    have hled : w.params.followText "set-order" = true ∨ t1.led = true := hl.imp id fun z => hl1.trans z
    have fin : ∀ h', Heap.SameBut a s.heap h' → SetS w h' a (fun j => S j || decide (j = k)) es1.size → Q true { s with heap := h' } := fun h' sb r => by
      have q := hQ h' sb; rw [hSk] at q; rw [hsz] at r; exact q r
    refine wpAny_bind (hgw _ ?_)
    split
    · refine wpAny_bind ?_; rw [hashByValue_scannable 8 hsc]; refine wpAny_pure (setS_tail ?_ ho hex hd g1 nd1 m1 hb1 ?_ ?_ ?_ ?_)
      · intro b s₁ Q' q; cases b <;> first | exact wpAny_pure q | exact wpAny_rule q
      · first | (split <;> first | exact hf1 | exact SetTable.fits_plain_off hf1) | exact hf1
      · first | (split <;> exact hr1) | exact hr1
      · first | (split <;> exact hled) | exact hled
      · exact fun h' sb r => wpAny_pure (fin h' sb r)
    · refine wpAny_bind (wpAny_pure ?_); simp only [↓reduceIte]; refine setS_tail ?_ ho hex hd g1 nd1 m1 hb1 hf1 hr1 hled ?_
      · intro b s₁ Q' q; cases b <;> first | exact wpAny_pure q | exact wpAny_rule q
      · exact fun h' sb r => wpAny_pure (fin h' sb r)
end
end Dt

set_option Elab.async false
set_option linter.all false
set_option maxRecDepth 100000
set_option maxHeartbeats 4000000
/-! sorted(set(a)), a a list of texts. -/
namespace Dt
open PySem PySem.Spec PyProof.Rows L2
abbrev SeenS (w : World) (S : Addr) (xs : List Str) (i : Nat) (h : Heap) : Prop := SetS w h S (seen xs i) (kinds (xs.take i)).length
section
variable {prog : Program} {w : World} {A : Around} {R : Result → Shared → Prop} {I : Addr} {fp wr : List Addr} {G : Array GenState → Array GenState → Prop} {n : Nat} {P : Nat → Value → Prop} {St : Nat → Shared → Prop}
theorem loop_textsS (W : WalksS prog w A.in1 I fp wr G n P St) (S : Addr) (away : S ∉ fp) (xs : List Str) (len : xs.length = n) (room : n + 1 < scanBound) (val : ∀ i v, P i v → ∃ t, v = .str (xs.getD i Str.empty) t)
    : ∀ (k i : Nat) (s : Shared), n - i = k → i ≤ n → St i s → SeenS w S xs i s.heap →
      (∀ t, Moved (S :: wr) G s t → SeenS w S xs n t.heap → R (.ok (.ret .none)) t) → codeAny (model prog w) A (.builtin "set.update.loop" ⟨[.ref S, .ref I], []⟩) R s := by
  have notW : S ∉ wr := fun q => away (W.sub _ q)
  have wide : ∀ b ∈ wr, b ∈ S :: wr := fun b q => .tail _ q
  have keep : ∀ {i : Nat} {s t : Shared}, Moved wr G s t → SeenS w S xs i s.heap → SeenS w S xs i t.heap := fun m r => SetS.at_ r fun o ho => m.heap S _ notW ho
  intro k
  induction k with
  | zero =>
    intro i s hk le st hS fin
    obtain rfl : i = n := by omega
    refine codeAny_builtin F.entry_set_update_loop (by rw [Around.under_plainId F.plain_set_update_loop _]; exact (show wpAny _ A.in1 (pyNext (.ref I) >>= _) _ _ s from wpAny_bind (W.done s _ _ st fun t m => (show wpAny _ A.in1 (ret Value.none) _ _ t from wpAny_pure (fin t (m.mono wide) (keep m hS))))))
  | succ k ih =>
    intro i s hk le st hS fin
    have lt : i < n := by omega
    refine codeAny_builtin F.entry_set_update_loop ?_; rw [Around.under_plainId F.plain_set_update_loop _]
    refine (show wpAny _ A.in1 (pyNext (.ref I) >>= _) _ _ s from wpAny_bind (W.item i s _ _ lt st fun v t hv st' m => ?_))
    obtain ⟨tk, rfl⟩ := val i v hv
    have hS' := keep m hS
    refine (show wpAny _ A.in1 (holding [Value.str (xs.getD i Str.empty) tk] (setAdd S (.str (xs.getD i Str.empty) tk)) >>= _) _ _ t from wpAny_bind (wpAny_holding ?_))
    unfold setAdd
    have space : (kinds (xs.take i)).length + 1 < scanBound := by have := kinds_len (xs.take i); rw [List.length_take] at this; omega
    refine wpAny_holding (wpAny_bind ((PySem.strKind prog w).pyHash (k := xs.getD i Str.empty) (strKind_is _ _ _ _) ?_))
    refine setS_add (P := prog) (s := { t with toks := t.toks + 1 }) hS' space fun h1 only hS2 => ?_
    have hS3 : SeenS w S xs (i + 1) h1 := hS2.congr (fun y => by
      unfold seen
      rw [take_snoc (by omega), kinds_snoc, Bool.eq_iff_iff, Bool.or_eq_true, decide_eq_true_iff, decide_eq_true_iff, decide_eq_true_iff, mem_kindS]) (by
      rw [take_snoc (by omega), kinds_snoc, len_kindS]
      simp [seen])
    have rest : ∀ b, b ≠ S → ∀ o, t.heap.get? b = some o → h1.get? b = some o := fun b q o e => by rw [only.2 b q]; exact e
    exact wpAny_pure ⟨plainId_quiet F.plain_set_update_loop _, ih (i + 1) _ (by omega) lt (W.frame _ t _ _ st' (Nat.le_succ _) fun b q o e => rest b (fun x => away (x ▸ q)) o e) hS3 fun u m2 hS4 =>
      fin u (Moved.trans W.gtrans ((m.mono wide).then_heap (Nat.le_succ _) fun b o q e => rest b (fun x => q (x ▸ .head _)) o e) m2) hS4⟩
end
section
variable {prog : Program} {w : World} {A : Around} {E : Value → Shared → Prop} {s : Shared}
theorem fresh_setS {h : Heap} {a : Addr} {xs : List Str} (ho : h.get? a = some (bare (!w.params.followText "set-order"))) : SeenS w a xs 0 h :=
  ⟨_, #[], 0, _, ho, ⟨rfl, rfl, rfl⟩, rfl, (fun e he => by simp at he), (by simp), (fun k => by simp [seen, kinds]), (by decide), (by rfl), (by simp [kinds]), List.Pairwise.nil, by
    show _ ∨ (!w.params.followText "set-order") = true
    cases w.params.followText "set-order" <;> simp⟩
theorem call_set_textsS {l : Addr} {items : Array Value} {xs : List Str} {Q : Value → Shared → Prop} (hh : A.handled = none) (hl : s.heap.IsList l items) (txt : StrsAre items.toList xs) (len : xs.length = items.size) (room : items.size + 1 < scanBound)
    (fin : ∀ (h1 : Heap) (tk : Nat), SeenS w s.heap.objs.size xs items.size h1 → (∀ b o, b < s.heap.objs.size → s.heap.get? b = some o → h1.get? b = some o) → Q (.ref s.heap.objs.size) { s with heap := h1, toks := tk }) :
    wpAny (model prog w) A (call (.type "set") [.ref l]) Q E s := by
  obtain ⟨c, tl, mro⟩ := F.called_set.mro
  have k1 := F.called_set.made; have k2 := F.called_set.sub
  refine wpAny_call (codeAny_of_tree (show wpAny _ _ (callAny (.type "set") _) _ _ _ from wpAny_pure ⟨Code.quiet_builtin _ (by decide +kernel), codeAny_builtin F.entry_type_call ?_⟩))
  have k0 := Around.under_plain (A := A) (weight_type_call_type "set" [.ref l] []) rfl; rw [k0]
  have k3 := F.called_set.notType; have k4 := F.called_set.canCreate; have k5 := F.typeCall_set_1 (.ref l)
  repeat any_goals first | assumption | wp_step
  refine codeAny_mono (code_set_led1 (.ref l) (E := E) (Q₁ := fun v t => v = .ref s.heap.objs.size ∧ t = { s with heap := s.heap.push (bare (!w.params.followText "set-order")) }) ⟨rfl, rfl⟩) fun r t hr => ?_
  match r, hr with
  | .error e, hr => exact hr
  | .ok (.ret v), hr =>
    obtain ⟨rfl, rfl⟩ := hr
    generalize hled : (!w.params.followText "set-order") = led
    have at1 : (s.heap.push (bare led)).get? s.heap.objs.size = some (bare led) := Heap.get?_push_size _ rfl
    have ty : Shared.TypeIs { s with heap := s.heap.push (bare led) } (.ref s.heap.objs.size) "set" := ⟨_, at1, rfl⟩
    have k6 := F.called_set.init.lookup; have k7 := F.called_set.init.bind (.ref s.heap.objs.size)
    repeat any_goals first | assumption | wp_step
    refine codeAny_mono (codeAny_call_builtin (R := wants (fun r t => r = .none ∧ ∃ h1 tk, t = { s with heap := h1, toks := tk } ∧ SeenS w s.heap.objs.size xs items.size h1 ∧ (∀ b o, b < s.heap.objs.size → s.heap.get? b = some o → h1.get? b = some o)) E) F.called_set.init.plain F.entry_set_init (check_set_init_1 ty ?_)) fun r t hr => ?_
    · obtain ⟨⟨ocls, odict, odata, oslots⟩, at2, c2, nl, d2⟩ := hl
      obtain rfl : ocls = _ := c2
      obtain rfl : odata = _ := d2
      have is1 : s.heap.IsList l items := ⟨_, at2, rfl, nl, rfl⟩
      have at3 := Heap.get?_push_of_some (bare led) at2
      have is2 : (s.heap.push (bare led)).IsList l items := ⟨_, at3, rfl, nl, rfl⟩
      have k8 := F.sub_list_set; have k9 := F.sub_list_frozenset
      have kA : (Value.type "list" == Value.type "dict") = false := by decide
      unfold Builtin.«set.__init__» noKeywords Builtin.Frozenset.updateFrom
      generalize hPI : pyIter = PI
      wp_walk
      subst hPI
      refine wpAny_pyIter_list is2 (wpAny_bind (wpAny_runValue ?_))
      have lt : l < s.heap.objs.size := Heap.lt_size at2
      have sz : (s.heap.push (bare led)).objs.size = s.heap.objs.size + 1 := Heap.size_push _ _
      have q1 : A.in1.in1.in1.handled = none := by simp [hh]
      have q2 : l ≠ (s.heap.push (bare led)).objs.size := by rw [sz]; exact Nat.ne_of_lt (Nat.lt_succ_of_lt lt)
      have q3 : s.heap.objs.size ∉ [(s.heap.push (bare led)).objs.size, l] := fun h => by
        rcases List.mem_cons.mp h with e | h
        · rw [sz] at e; exact Nat.ne_of_lt (Nat.lt_succ_self _) e
        · rw [← List.mem_singleton.mp h] at lt; exact Nat.lt_irrefl _ lt
      have at4 : ((s.heap.push (bare led)).push (walker l)).get? s.heap.objs.size = some (bare led) := Heap.get?_push_of_some _ at1
      refine loop_textsS ((Walks.list q1 _ l q2 items).toS) s.heap.objs.size q3 xs len room (fun i v hv => SS.strs_at txt i v (by rw [Array.getElem?_toList]; exact hv)) (items.size - 0) 0 _ (by omega) (Nat.zero_le _) ⟨⟨_, Heap.get?_push_size _ rfl, rfl, rfl⟩, is2.push _⟩ ?_ ?_
      · exact fresh_setS (by rw [hled]; exact at4)
      · intro ⟨h1, g1, d1, t1, o1⟩ m hS
        obtain rfl : g1 = s.gens := m.gens
        obtain rfl : d1 = s.drawn := m.drawn
        obtain rfl : o1 = s.os := m.os
        refine (show wpAny _ _ _ _ _ _ from wpAny_pure (show wpAny _ _ (ret Value.none) _ _ _ from wpAny_pure ⟨rfl, h1, t1, rfl, hS, fun b o hb e => ?_⟩))
        refine m.heap b o (fun h => ?_) (Heap.get?_push_of_some _ (Heap.get?_push_of_some _ e))
        rcases List.mem_cons.mp h with q | q
        · exact Nat.ne_of_lt hb q
        · rw [List.mem_singleton.mp q, sz] at hb; exact Nat.lt_irrefl _ (Nat.lt_of_succ_lt hb)
    · match r, hr with
      | .error e, hr => exact hr
      | .ok (.ret v), hr =>
        obtain ⟨rfl, h1, tk, rfl, hS, old⟩ := hr
        repeat any_goals first | assumption | wp_step
        exact fin _ _ hS old
theorem strs_goodT : ∀ (l : List (Int × Value)), (∀ e ∈ l, GoodT w e) → StrsAre (l.map (·.2)) (l.map keyT)
  | [], _ => .nil
  | e :: l, g => by
    obtain ⟨x, tk, h1, _⟩ := g e (.head _)
    have ek : keyT e = x := by unfold keyT; rw [h1]
    rw [List.map_cons, List.map_cons, h1, ek]
    exact .cons x tk (strs_goodT l fun e he => g e (.tail _ he))
end
end Dt

set_option Elab.async false
set_option linter.all false
set_option maxRecDepth 100000
set_option maxHeartbeats 4000000
/-! sorted(set(a)), a a list of texts: as a value. -/
namespace Dt
open PySem PySem.Spec PyProof.Rows L2
/-- one more text in a rising list -/
def insU (x : Str) : List Str → List Str
  | [] => [x]
  | y :: r => if sLt x y = true then x :: y :: r else if x = y then y :: r else y :: insU x r
/-- the unlike texts, ascending -/
def riseOf (xs : List Str) : List Str := xs.foldl (fun l x => insU x l) []
theorem mem_insU {x z : Str} : ∀ {l : List Str}, z ∈ insU x l ↔ z = x ∨ z ∈ l
  | [] => by simp [insU]
  | y :: r => by
    unfold insU
    split
    · exact List.mem_cons
    · split
      · rename_i e; subst e; rw [List.mem_cons]; exact ⟨.inr, fun h => h.elim .inl id⟩
      · rw [List.mem_cons, List.mem_cons, mem_insU (l := r)]
        exact ⟨fun h => h.elim (fun h => .inr (.inl h)) fun h => h.elim .inl fun h => .inr (.inr h), fun h => h.elim (fun h => .inr (.inl h)) fun h => h.elim .inl fun h => .inr (.inr h)⟩
theorem str_eq {a b : Str} (h1 : ¬ a.cps.toList < b.cps.toList) (h2 : ¬ b.cps.toList < a.cps.toList) : a = b := by
  have h : a.cps.toList = b.cps.toList := List.le_antisymm (List.not_lt.mp h2) (List.not_lt.mp h1)
  cases a; cases b; simp only at h; congr 1; exact Array.toList_inj.mp h
theorem rises_cons {x : Str} {l : List Str} (hl : rises l = true) (h : ∀ y ∈ l, x.cps.toList < y.cps.toList) : rises (x :: l) = true := by
  cases l with
  | nil => rfl
  | cons y r => unfold rises; rw [Bool.and_eq_true]; exact ⟨decide_eq_true (h y (.head _)), hl⟩
theorem rises_tail {x : Str} {l : List Str} (h : rises (x :: l) = true) : rises l = true := by
  cases l with
  | nil => rfl
  | cons y r => unfold rises at h; rw [Bool.and_eq_true] at h; exact h.2
theorem rises_insU {x : Str} : ∀ {l : List Str}, rises l = true → rises (insU x l) = true
  | [], _ => rfl
  | y :: r, h => by
    unfold insU
    split
    · rename_i c
      have c : x.cps.toList < y.cps.toList := of_decide_eq_true c
      exact rises_cons h fun z hz => (List.mem_cons.mp hz).elim (fun e => e ▸ c) fun hz => List.lt_trans c (rises_all h z hz)
    · split
      · exact h
      · rename_i c ne
        have c : ¬ x.cps.toList < y.cps.toList := fun z => c (decide_eq_true z)
        have c2 : y.cps.toList < x.cps.toList := Classical.byContradiction fun z => ne (str_eq c z)
        exact rises_cons (rises_insU (rises_tail h)) fun z hz => (mem_insU.mp hz).elim (fun e => e ▸ c2) fun hz => rises_all h z hz
theorem riseOf_go : ∀ (xs l : List Str), rises l = true → rises (xs.foldl (fun l x => insU x l) l) = true ∧ ∀ z, z ∈ xs.foldl (fun l x => insU x l) l ↔ z ∈ xs ∨ z ∈ l
  | [], l, h => ⟨h, fun z => by simp⟩
  | x :: xs, l, h => by
    obtain ⟨h1, h2⟩ := riseOf_go xs (insU x l) (rises_insU h)
    refine ⟨h1, fun z => (h2 z).trans ?_⟩
    rw [mem_insU, List.mem_cons]
    exact ⟨fun h => h.elim (fun h => .inl (.inr h)) fun h => h.elim (fun h => .inl (.inl h)) .inr, fun h => h.elim (fun h => h.elim (fun h => .inr (.inl h)) .inl) fun h => .inr (.inr h)⟩
theorem rises_riseOf (xs : List Str) : rises (riseOf xs) = true := (riseOf_go xs [] rfl).1
theorem mem_riseOf {xs : List Str} {z : Str} : z ∈ riseOf xs ↔ z ∈ xs := ((riseOf_go xs [] rfl).2 z).trans (by simp)
theorem rises_nodup : ∀ {l : List Str}, rises l = true → l.Nodup
  | [], _ => .nil
  | x :: l, h => List.nodup_cons.mpr ⟨fun hx => List.lt_irrefl _ (rises_all h x hx), rises_nodup (rises_tail h)⟩
theorem mem_kinds_go : ∀ (xs σ : List Str) (z : Str), z ∈ xs.foldl kindS σ ↔ z ∈ σ ∨ z ∈ xs
  | [], σ, z => by simp
  | x :: xs, σ, z => by
    rw [List.foldl_cons, mem_kinds_go xs, mem_kindS, List.mem_cons]
    exact ⟨fun h => h.elim (fun h => h.elim .inl fun h => .inr (.inl h)) fun h => .inr (.inr h), fun h => h.elim (fun h => .inl (.inl h)) fun h => h.elim (fun h => .inl (.inr h)) .inr⟩
section
variable {P : Program} {w : World} {A : Around} {E : Value → Shared → Prop} {s : Shared} {a : Addr} {S : Str → Bool} {n : Nat}
theorem sorted_setS {Q : Value → Shared → Prop} (R : SetS w s.heap a S n) (hh : A.handled = none) (h64 : n < 64)
    (hQ : ∀ s' p (out : Array Value) (c : Nat) (ys zs : List Str), (∀ b o, s.heap.get? b = some o → s'.heap.get? b = some o) → s'.gens = s.gens → s'.os = s.os → s.heap.objs.size ≤ p → s'.heap.get? p = some (seqObj "list" out c) → StrsAre out.toList ys → sortedS ys = true → ys.Perm zs → zs.Nodup → (∀ k, k ∈ zs ↔ S k = true) → ys.length = n → Q (.ref p) s') :
    wpAny (model P w) A (call (.builtin "sorted") [.ref a]) Q E s := by
  obtain ⟨o, es, ep, t, ho, hex, hd, g, nd, hm, hb, hf, hn, hr, hl⟩ := R
  refine Calls.call_function_entry kind_sorted plain_sorted entry_sorted (args_sorted1 _) ?_; unfold Builtin.«sorted»
  refine wpAny_bind (m := checkCount "sorted" 1 1 _) (wpAny_pure (wpAny_bind (collect_set (A := A.in1) hh ⟨o, ho, hex.1, hd⟩ hf hb hr hl fun s1 vs k1 hz g1 o1 pm => ?_)))
  have hvl : vs.length = n := by rw [pm.length_eq, List.length_map, Array.length_toList]; exact hn
  have hI : StrsAre vs (vs.map fun v => keyT (0, v)) := by
    have all : ∀ v ∈ vs, ∃ x tk, v = Value.str x tk := fun v hv => by
      obtain ⟨e, he, q⟩ := List.mem_map.mp (pm.mem_iff.mp hv)
      obtain ⟨k, tk, h1, _⟩ := g e he
      exact ⟨k, tk, by rw [← q]; exact h1⟩
    clear pm hvl
    induction vs with
    | nil => exact .nil
    | cons v vs ih =>
      obtain ⟨x, tk, rfl⟩ := all v (.head _)
      exact .cons x tk (ih fun v hv => all v (.tail _ hv))
  have pk : (vs.map fun v => keyT (0, v)).Perm (es.toList.map keyT) := by
    have q := pm.map fun v => keyT (0, v)
    rw [List.map_map] at q; exact q
  refine wpAny_bind (wpAny_newList ?_ (by rw [hvl, sizeLine_eq]; omega))
  have hoL : (s1.heap.push (seqObj "list" vs.toArray 0)).get? s1.heap.objs.size = some (seqObj "list" vs.toArray 0) := Heap.get?_push_size _ rfl
  refine wpAny_bind (wpAny_holding (wpAny_call_entry slot_list_sort ⟨_, hoL, rfl⟩ entry_list_sort (list_sort_treeK strKind_oneLt (s := { s1 with heap := s1.heap.push (seqObj "list" vs.toArray 0) }) hoL hI.keysOf (fun v₁ v₂ rest e => keyKind_strs (by rw [← e]; exact hI)) (by rw [hvl]; exact h64) fun st' hp hs => ⟨_, rfl, ?_⟩) (args_list_sort _)))
  obtain ⟨ys, a1, a2, a3⟩ := sorted_out_str hI hp hs
  obtain ⟨c, hc⟩ := sortedHeap_at (vs := vs) (out := (arrOf st').map (·.2)) hoL
  refine wpAny_pure ⟨_, rfl, hQ _ s1.heap.objs.size _ c ys _ (fun b u e => ?_) g1 o1 hz hc a1 a3 (a2.trans pk) nd (fun k => (hm k).symm) (by rw [(a2.trans pk).length_eq, List.length_map, Array.length_toList]; exact hn)⟩
  have q := k1 b u e
  have hlt := Heap.lt_size q
  show (sortedHeap (s1.heap.push (seqObj "list" vs.toArray 0)) s1.heap.objs.size vs _).get? b = some u
  rw [sortedHeap_old (Nat.ne_of_lt hlt) (by rw [size_push']; exact Nat.lt_succ_of_lt hlt)]; exact Heap.get?_push_of_some _ q
end
section
variable {X : Cx} {W : WX} {ex : Exx} {p p2 q pos : Pos}
def tSortTx (K : PySem.W.Frag) (ta : TE) : TE := fun σ H Q => ta σ H fun x H1 => ∃ (l : Addr) (xs : List Str), x = V.ref l ∧ SqL K H1 l (xs.map V.str) ∧ xs.length < 64 ∧ ∀ p, H1 p = none → Q (.ref p) (upd H1 p (.lst ((riseOf xs).map V.str)))
theorem pe_sortTx {a : Expr} {ta : TE} (calm : X.calm = true) (g1 : Gl X "sorted") (m1 : X.mg "sorted" = none) (g2 : Gl X "set") (m2 : X.mg "set" = none) (ha : PE X a ta) (ns : starEach [a] X.env = (false, eval a X.env) :: starEach [] X.env := by rfl) :
    PE X (.Call (.Name "sorted" p) [.Call (.Name "set" p2) [a] [] q] [] pos) (tSortTx X.K ta) := by
  constructor; intro pins s σ H Q I h
  refine Call_ (ld_blt I g1 m1 boot_sorted (callWith_builtin1 (args_cons (Call_ (ld_blt I g2 m2 boot_set (callWith_type1 (args_cons (thn (ha.run pins s σ H _ I h) fun v t ⟨x, H1, I1, r1, l, xs, e1, hq, room, q1⟩ => args_nil ?_) ns) ns rfl))) rfl) rfl rfl))
  subst e1; cases r1
  obtain ⟨its, r, pl, hz⟩ := I1.list hq
  have sz : xs.length = its.toArray.size := by rw [List.size_toArray, ← r.length, List.length_map]
  have hr2 : xs.length + 1 < scanBound := Nat.lt_of_lt_of_le (Nat.add_lt_add_right room 1) (by unfold scanBound; omega)
  refine call_set_textsS (I1.ok.hd calm) pl.isList (by simpa using strsAre_of r) sz (by rw [← sz]; exact hr2) fun h1 tk hS old => args_nil ?_
  have small := kinds_len (xs.take its.toArray.size)
  have I2 : Inv X pins σ H1 { t with heap := h1, toks := tk } := I1.kept fun b o e => old b o (Heap.lt_size e) e
  refine sorted_setS (s := { t with heap := h1, toks := tk }) hS (I1.ok.hd calm) (by rw [← sz, List.take_length] at small ⊢; omega) fun s' pp out c ys zs k g o hp hg hi hs pz nz hm hl => ?_
  have ey : ys = riseOf xs := by
    refine sorted_same (pz.trans ((List.perm_ext_iff_of_nodup nz (rises_nodup (rises_riseOf xs))).mpr fun z => ?_)) hs (rises_riseOf xs)
    rw [hm z, mem_riseOf]
    unfold seen
    rw [decide_eq_true_iff, ← sz, List.take_length]
    unfold kinds
    rw [mem_kinds_go]; simp
  subst ey
  have hlen : ((riseOf xs).map V.str).length ≤ sizeLine := by rw [List.length_map, hl, sizeLine_eq]; rw [← sz, List.take_length] at small ⊢; omega
  have hn : H1 pp = none := I2.hok.fresh hp
  have J : Inv X pins σ (upd H1 pp (.lst ((riseOf xs).map V.str))) { t with heap := s'.heap, gens := s'.gens, drawn := s'.drawn, toks := s'.toks } :=
    Inv.call (s := { t with heap := h1, toks := tk }) (ch := []) I2 (Un.laid (h := h1) k hp hn) (I2.hok.laid k hp ⟨hlen, out.toList, c, vals_of_strs hi, hg⟩) (by rw [g]; exact I2.bare) (fun _ z => nomatch z)
  have e : s' = { t with heap := s'.heap, gens := s'.gens, drawn := s'.drawn, toks := s'.toks } := by cases s'; cases t; cases o; rfl
  rw [e]
  exact ⟨.ref pp, _, J, rfl, q1 pp hn⟩
def sortSetD : D → Option D
  | .lst ds => (strsOf ds).bind fun xs => if xs.length < 64 then some (.lst ((riseOf xs).map D.str)) else none
  | _ => none
def sSortSet (s : SE) : SE := fun ρ => (s ρ).bind fun d ρ' => ofO (sortSetD d) ρ'
@[simp] theorem ev_sortSet (s : SE) (ρ : Env) : sSortSet s ρ = (s ρ).bind fun d ρ' => ofO (sortSetD d) ρ' := rfl
theorem rps_strs {K : PySem.W.Frag} {F : Hp} : ∀ (zs : List Str), Rps K F (zs.map V.str) (zs.map D.str)
  | [] => .nil
  | z :: zs => .cons (.str z) (rps_strs zs)
theorem d_sortSetF {a : Expr} {sa : SE} (calm : X.calm = true) (g1 : Gl X "sorted") (m1 : X.mg "sorted" = none) (g2 : Gl X "set") (m2 : X.mg "set" = none) (ha : DE (GK X ex) X W a sa) (ns : starEach [a] X.env = (false, eval a X.env) :: starEach [] X.env := by rfl) :
    DF (GK X ex) X W (.Call (.Name "sorted" p) [.Call (.Name "set" p2) [a] [] q] [] pos) (sSortSet sa) := wkE (pe_sortTx calm g1 m1 g2 m2 ha ns) fun σ H Q ⟨ρ, F, Rv, io, rel, k⟩ => by
  refine ⟨ρ, F, Rv, io, rel, ?_⟩
  unfold sSortSet at k
  cases e : sa ρ with
  | stuck => rw [e] at k; exact k.elim
  | exc x ρ' => rw [e] at k; exact k
  | ok d ρ' =>
    rw [e, R.bind_ok] at k
    intro v H' F' le rel' rp
    cases rp with
    | lst t r =>
      cases e2 : strsOf _ with
      | none => rw [sortSetD, e2] at k; exact k.elim
      | some xs =>
        rw [sortSetD, e2, Option.bind_some] at k
        by_cases hc : xs.length < 64
        · rw [if_pos hc] at k
          rw [strs_vw r e2] at t
          exact ⟨_, xs, rfl, SqL.of (rel'.fH _ _ t), hc, fun pp hp => k pp _ F' le (rel'.newH hp _) ⟨rel'.fH.noneOf hp, rel'.rH.noneOf hp, _, upd_same, _, rfl, rps_strs _⟩ (rel'.loose hp)⟩
        · rw [if_neg hc] at k; exact k.elim
    | _ => exact k.elim
end
end Dt

set_option Elab.async false
set_option linter.all false
set_option maxRecDepth 100000
set_option maxHeartbeats 4000000
/-! sorted(a), a a list of unlike texts in any order. -/
namespace Dt
open PySem PySem.Spec PyProof.Rows L2
theorem rises_uniq {xs ys : List Str} (hx : rises xs = true) (hy : rises ys = true) (h : ∀ z, z ∈ xs ↔ z ∈ ys) : xs = ys := by
  refine List.Perm.eq_of_pairwise (le := fun a b => ¬ b.cps.toList < a.cps.toList) (fun a b _ _ h1 h2 => str_eq h2 h1) (rises_pair hx) (rises_pair hy) ((List.perm_ext_iff_of_nodup (rises_nodup hx) (rises_nodup hy)).mpr h)
theorem rise_ext {xs ys : List Str} (h : ∀ z, z ∈ xs ↔ z ∈ ys) : riseOf xs = riseOf ys := rises_uniq (rises_riseOf xs) (rises_riseOf ys) fun z => by rw [mem_riseOf, mem_riseOf]; exact h z
theorem rise_perm {xs : List Str} (h : xs.Nodup) : xs.Perm (riseOf xs) := (List.perm_ext_iff_of_nodup h (rises_nodup (rises_riseOf xs))).mpr fun z => by rw [mem_riseOf]
theorem rise_len {xs : List Str} (h : xs.Nodup) : (riseOf xs).length = xs.length := (rise_perm h).length_eq.symm
def gSortN : List D → Option D
  | [.lst ds] => (strsOf ds).bind fun xs => if xs.length < 64 ∧ xs.Nodup then some (.lst ((riseOf xs).map D.str)) else none
  | _ => none
theorem fsem_sortN {G : Gx} : FSem G (rSortedS G.K) gSortN := fun F H vs ds d Q fh vw e q => by
  unfold gSortN at e
  split at e
  · rename_i ds
    cases e1 : strsOf ds with
    | none => rw [e1] at e; cases e
    | some xs =>
      rw [e1, Option.bind_some] at e
      by_cases hc : xs.length < 64 ∧ xs.Nodup
      · rw [if_pos hc] at e
        cases e
        obtain ⟨v, rfl, h⟩ := vw.one
        obtain ⟨a, zs, rfl, t, r⟩ := h.lst fh
        have ez := strs_vw r e1
        refine ⟨a, xs, rfl, by rw [← ez]; exact SqL.of t, hc.1, fun ys pp hp hs hn => ?_⟩
        have ey : ys = riseOf xs := sorted_same (hp.trans (rise_perm hc.2)) hs (rises_riseOf xs)
        rw [ey]
        exact q pp _ hn ⟨_, rfl, rps_strs _⟩
      · rw [if_neg hc] at e; cases e
  · cases e
theorem strsOf_map (xs : List Str) : strsOf (xs.map D.str) = some xs := by
  induction xs with
  | nil => rfl
  | cons x xs ih => simp [strsOf, ih]
theorem gSortN_map {xs : List Str} (h : xs.length < 64) (nd : xs.Nodup) : gSortN [.lst (xs.map D.str)] = some (.lst ((riseOf xs).map D.str)) := by
  simp [gSortN, strsOf_map, h, nd]
theorem sortSet_map {xs : List Str} (h : xs.length < 64) : sortSetD (.lst (xs.map D.str)) = some (.lst ((riseOf xs).map D.str)) := by
  simp [sortSetD, strsOf_map, h]
end Dt

set_option Elab.async false
set_option linter.all false
set_option maxRecDepth 100000
set_option maxHeartbeats 4000000
/-! sorted(d), d a dict whose keys are texts. -/
namespace Dt
open PySem PySem.Spec PyProof.Rows L2
section
variable {P : Program} {w : World} {A : Around} {E : Value → Shared → Prop} {s : Shared} {T : String} {r d : Addr} {n : Nat} {PI : Nat → Value → Prop} {OK : Heap → Prop}
theorem sorted_src {Q : Value → Shared → Prop} {zs : List Str} (K : PySem.W.KdlSrc P w T r d n PI OK) (hh : A.handled = none) (hok : OK s.heap) (h64 : n < 64) (hstr : ∀ acc : Array Value, ItemsOf PI acc n → StrsAre acc.toList zs)
    (hQ : ∀ (h' : Heap) (tk : Nat) (h2 : Heap) (out : Array Value) (c : Nat) (ys : List Str), (∀ b o, s.heap.get? b = some o → h'.get? b = some o) → (∀ b o, h'.get? b = some o → h2.get? b = some o) → h2.get? h'.objs.size = some (seqObj "list" out c) → StrsAre out.toList ys → sortedS ys = true → ys.Perm zs → Q (.ref h'.objs.size) { s with heap := h2, toks := tk }) :
    wpAny (model P w) A (call (.builtin "sorted") [.ref r]) Q E s := by
  refine Calls.call_function_entry kind_sorted plain_sorted entry_sorted (args_sorted1 _) ?_; unfold Builtin.«sorted»
  refine wpAny_bind (m := checkCount "sorted" 1 1 _) (wpAny_pure (wpAny_bind (PySem.W.kdu_collect (A := A.in1) K hh hok (by rw [sizeLine_eq]; omega) fun h' tk acc k1 hz => ?_)))
  have hI := hstr acc hz
  have hvl : acc.toList.length = n := by rw [Array.length_toList]; exact hz.1
  generalize acc.toList = vs at hI hvl ⊢
  refine wpAny_bind (wpAny_newList ?_ (by rw [hvl, sizeLine_eq]; omega))
  have hoL : (h'.push (seqObj "list" vs.toArray 0)).get? h'.objs.size = some (seqObj "list" vs.toArray 0) := Heap.get?_push_size _ rfl
  refine wpAny_bind (wpAny_holding (wpAny_call_entry slot_list_sort ⟨_, hoL, rfl⟩ entry_list_sort (list_sort_treeK strKind_oneLt (s := { s with heap := h'.push (seqObj "list" vs.toArray 0), toks := tk }) hoL hI.keysOf (fun v₁ v₂ rest e => keyKind_strs (by rw [← e]; exact hI)) (by rw [hvl]; exact h64) fun st' hp hs => ⟨_, rfl, ?_⟩) (args_list_sort _)))
  obtain ⟨ys, a1, a2, a3⟩ := sorted_out_str hI hp hs
  obtain ⟨c, hc⟩ := sortedHeap_at (vs := vs) (out := (arrOf st').map (·.2)) hoL
  refine wpAny_pure ⟨_, rfl, hQ h' tk _ _ c ys k1 (fun b u q => ?_) hc a1 a3 a2⟩
  have hlt := Heap.lt_size q
  show (sortedHeap (h'.push (seqObj "list" vs.toArray 0)) h'.objs.size vs _).get? b = some u
  rw [sortedHeap_old (Nat.ne_of_lt hlt) (by rw [size_push']; exact Nat.lt_succ_of_lt hlt)]; exact Heap.get?_push_of_some _ q
end
section
variable {X : Cx}
def rSortedA (K : PySem.W.Frag) : List V → Hp → VK → Prop := fun vs H Q => rSortedS K vs H Q ∨ ∃ (a : Addr) (kvs : List (Key × V)) (zs : List Str), vs = [V.ref a] ∧ Rd H a (.dK kvs) ∧ (kvs.map fun kv => kV kv.1) = zs.map V.str ∧ zs.length < 64 ∧
  ∀ (ys : List Str) (p : Addr), ys.Perm zs → sortedS ys = true → H p = none → Q (.ref p) (upd H p (.lst (ys.map V.str)))
theorem cr_sortedA (calm : X.calm = true) : CallR X (.builtin "sorted") (rSortedA X.K) := by
  intro pins s σ H xs us Q I r h
  rcases h with h | ⟨a, kvs, zs, rfl, hd, ez, h64, q⟩
  · exact cr_sortedS pins s σ H xs us Q I r h
  obtain ⟨u, eu, rx⟩ := vals1 r
  subst eu
  cases rx
  obtain ⟨z, lo, vs, rel, dd⟩ := dk_rd I.hok hd
  obtain ⟨ep, hat⟩ := dd.dictAt
  have ek : (kvs.map fun kv => kV kv.1) = vs.map fun p => kV p.1 := by
    have e := congrArg (List.map kV) rel.keys
    rw [List.map_map, List.map_map] at e
    exact e
  have ln : vs.length = zs.length := by
    have := congrArg List.length (ek.symm.trans ez)
    rw [List.length_map, List.length_map] at this
    exact this
  refine sorted_src (PySem.W.kdl_dict (knd := mixKind X.prog X.w) (kvs := vs) (ep := ep) lo) (I.ok.hd calm) hat (by rw [ln]; exact h64) (zs := zs) (fun acc hacc => ?_) fun h' tk h2 out c ys k1 k2 hg hi hs hp => ?_
  · have hv : Vals (vs.map fun p => kV p.1) acc.toList := keys_at (by rw [Array.length_toList]; exact hacc.1) fun j v e => hacc.2 j v (by rw [← Array.getElem?_toList]; exact e)
    rw [← ek, ez] at hv
    exact hv.strs
  · have I2 : Inv X pins σ H { s with heap := h', toks := tk } := I.kept fun b o e => k1 b o e
    have hlen : (ys.map V.str).length ≤ sizeLine := by rw [List.length_map, hp.length_eq]; exact small64 h64
    exact ⟨.ref _, upd H h'.objs.size (.lst (ys.map V.str)), I2.laid (t' := tk) k2 (Nat.le_refl _) ⟨hlen, out.toList, c, vals_of_strs hi, hg⟩, rfl, q ys _ hp hs (I2.hok.fresh (Nat.le_refl _))⟩
end
def gSortA : List D → Option D
  | [.lst ds] => (strsOf ds).bind fun xs => if xs.length < 64 ∧ xs.Nodup then some (.lst ((riseOf xs).map D.str)) else none
  | [.dct ks _] => (strsOf (ks.map keyD)).bind fun xs => if xs.length < 64 ∧ xs.Nodup then some (.lst ((riseOf xs).map D.str)) else none
  | _ => none
theorem fsem_sortA {G : Gx} : FSem G (rSortedA G.K) gSortA := fun F H vs ds d Q fh vw e q => by
  unfold gSortA at e
  split at e
  · rename_i ds
    exact .inl (fsem_sortN F H vs [.lst ds] d Q fh vw e q)
  · rename_i ks vs'
    cases e1 : strsOf (ks.map keyD) with
    | none => rw [e1] at e; cases e
    | some xs =>
      rw [e1, Option.bind_some] at e
      by_cases hc : xs.length < 64 ∧ xs.Nodup
      · rw [if_pos hc] at e
        cases e
        obtain ⟨v, rfl, h⟩ := vw.one
        obtain ⟨a, kvs, rfl, rd, rfl, r⟩ := h.dct fh
        refine .inr ⟨a, kvs, xs, rfl, rd, strs_vw (K := G.K) (F := F) rps_keys e1, hc.1, fun ys pp hp hs hn => ?_⟩
        have ey : ys = riseOf xs := sorted_same (hp.trans (rise_perm hc.2)) hs (rises_riseOf xs)
        rw [ey]
        exact q pp _ hn ⟨_, rfl, rps_strs _⟩
      · rw [if_neg hc] at e; cases e
  · cases e
theorem gSortA_map {xs : List Str} (h : xs.length < 64) (nd : xs.Nodup) : gSortA [.lst (xs.map D.str)] = some (.lst ((riseOf xs).map D.str)) := by
  simp [gSortA, strsOf_map, h, nd]
theorem gSortA_dct {xs : List Str} {ds : List D} (h : xs.length < 64) (nd : xs.Nodup) : gSortA [.dct (xs.map Sum.inr) ds] = some (.lst ((riseOf xs).map D.str)) := by
  have e : (xs.map (Sum.inr (α := Int))).map keyD = xs.map D.str := by rw [List.map_map]; rfl
  simp only [gSortA, e, strsOf_map]
  simp [h, nd]
end Dt

set_option Elab.async false
set_option linter.all false
set_option maxRecDepth 100000
set_option maxHeartbeats 4000000
/-! A dict of one's own, lent to an expression that reads it: it is locked meanwhile. -/
namespace Dt
open PySem PySem.Spec PyProof.Rows L2
mutual
/-- no dict in it -/
def D.dfree : D → Bool
  | .dct _ _ => false
  | .nd _ _ => false
  | .tup ds => D.dfrees ds
  | .lst ds => D.dfrees ds
  | .arg ds => D.dfrees ds
  | _ => true
def D.dfrees : List D → Bool
  | [] => true
  | d :: ds => d.dfree && D.dfrees ds
end
def cellFree : Cell → Bool
  | .own d => d.dfree
  | .io d => d.dfree
  | _ => true
/-- the frozen things but p -/
def eraseH (F : Hp) (p : Addr) : Hp := fun a => if a = p then none else F a
theorem erase_ne {F : Hp} {p a : Addr} (h : a ≠ p) : eraseH F p a = F a := if_neg h
theorem erase_same {F : Hp} {p : Addr} : eraseH F p p = none := if_pos rfl
section
variable {K : PySem.W.Frag} {F : Hp} {p : Addr} {od : Obj} {kvs : List (Key × V)}
mutual
theorem Rp.erase (hp : F p = some (.frz od (.dK kvs))) : ∀ {v : V} {d : D}, Rp K F v d → d.dfree = true → Rp K (eraseH F p) v d
  | _, _, .non, _ => .non
  | _, _, .bl b, _ => .bl b
  | _, _, .int i, _ => .int i
  | _, _, .str s, _ => .str s
  | _, _, .tup t r, h => .tup (let ⟨o, e1, e2⟩ := t; ⟨o, e1, by rw [erase_ne (fun z => by subst z; rw [hp] at e2; cases e2)]; exact e2⟩) (Rps.erase hp r (by rw [D.dfree] at h; exact h))
  | _, _, .arg t r, h => .arg (by
      rcases t with (t | ⟨o, t⟩) | t
      · exact .inl (.inl (by rw [erase_ne (fun z => by subst z; rw [hp] at t; cases t)]; exact t))
      · exact .inl (.inr ⟨o, by rw [erase_ne (fun z => by subst z; rw [hp] at t; cases t)]; exact t⟩)
      · exact .inr t) (Rps.erase hp r (by rw [D.dfree] at h; exact h))
  | _, _, .lst t r, h => .lst (by rw [erase_ne (fun z => by subst z; rw [hp] at t; cases t)]; exact t) (Rps.erase hp r (by rw [D.dfree] at h; exact h))
  | _, _, .dct _ _, h => by rw [D.dfree] at h; cases h
  | _, _, .scr t, _ => .scr (by
      rcases t with (t | ⟨o, t⟩) | t
      · exact .inl (.inl (by rw [erase_ne (fun z => by subst z; rw [hp] at t; cases t)]; exact t))
      · exact .inl (.inr ⟨o, by rw [erase_ne (fun z => by subst z; rw [hp] at t; cases t)]; exact t⟩)
      · exact .inr t)
  | _, _, .fn nm, _ => .fn nm
  | _, _, .exn a, _ => .exn a
  | _, _, .nd _ _ _ _, h => by rw [D.dfree] at h; cases h
theorem Rps.erase (hp : F p = some (.frz od (.dK kvs))) : ∀ {vs : List V} {ds : List D}, Rps K F vs ds → D.dfrees ds = true → Rps K (eraseH F p) vs ds
  | _, _, .nil, _ => .nil
  | _, _, .cons a b, h => by
    rw [D.dfrees, Bool.and_eq_true] at h
    exact .cons (Rp.erase hp a h.1) (Rps.erase hp b h.2)
end
theorem OwnObj.erase (hp : F p = some (.frz od (.dK kvs))) {q : Addr} {o : HO} {d : D} (h : OwnObj K F q o d) (hd : d.dfree = true) : OwnObj K (eraseH F p) q o d := by
  cases d with
  | lst ds =>
    obtain ⟨xs, e, r⟩ := h
    exact ⟨xs, e, r.erase hp (by rw [D.dfree] at hd; exact hd)⟩
  | dct ks ds => rw [D.dfree] at hd; cases hd
  | nd ks ds => rw [D.dfree] at hd; cases hd
  | _ => exact h
end
open Classical in
/-- s, which reads the dict of one's own at i as data; nothing else of the environment may change -/
noncomputable def sLend (i : Nat) (s : SE) : SE := fun ρ => match (ρ[i]? : Option Cell) with
  | some (.own (.dct ks ds)) => match s (ρ.set i (.fro (.dct ks ds))) with
    | .ok v ρ' => if ρ' = ρ.set i (.fro (.dct ks ds)) ∧ v.dfree = true ∧ (ρ.set i .no).all cellFree = true then .ok v ρ else .stuck
    | _ => .stuck
  | _ => .stuck
section
variable {G : Gx} {X : Cx} {W : WX} {e : Expr} {s : SE}
theorem d_lend {i : Nat} (h : DE G X W e s) : DE G X W e (sLend i s) := wkE (pe_lock h) fun σ H Q ⟨ρ, F, Rv, io, rel, q⟩ => by
  unfold sLend at q
  cases e1 : ρ[i]? with
  | none => rw [e1] at q; exact q.elim
  | some c =>
    rw [e1] at q
    cases c with
    | own d =>
      cases d with
      | dct ks ds =>
        simp only at q
        cases e2 : s (ρ.set i (.fro (.dct ks ds))) with
        | stuck => rw [e2] at q; exact q.elim
        | exc x ρ' => rw [e2] at q; exact q.elim
        | ok v ρ' =>
          rw [e2] at q
          simp only at q
          by_cases hc : ρ' = ρ.set i (.fro (.dct ks ds)) ∧ v.dfree = true ∧ (ρ.set i .no).all cellFree = true
          case neg => rw [if_neg hc] at q; exact q.elim
          rw [if_pos hc] at q
          obtain ⟨rfl, hv, hfree⟩ := hc
          obtain ⟨p, e3, w⟩ := rel.heldAt e1 rfl
          obtain ⟨o, e4, ow⟩ := w.at_
          have ow' := ow
          obtain ⟨kvs, rfl, hk, r⟩ := ow
          have hil : i < ρ.length := (List.getElem?_eq_some_iff.mp e1).1
          refine ⟨p, .dK kvs, e4, trivial, fun od => ?_⟩
          obtain ⟨le1, rel1, rp1⟩ := rel.freeze e1 e3 e4 ow' od
          refine ⟨ρ.set i (.fro (.dct ks ds)), _, Rv, io, rel1, ?_⟩
          rw [e2]
          intro x H' F' le2 rel2 rp2
          have hp : F' p = some (.frz od (.dK kvs)) := le2 _ _ upd_same
          refine ⟨rel2.fH _ _ hp, q x _ (eraseH F' p) (fun a u ea => ?_) ?_ (rp2.erase hp hv)⟩
          · have ne : a ≠ p := fun z => by subst z; rw [w.nF] at ea; cases ea
            rw [erase_ne ne]
            exact le2 _ _ (by show upd F p _ a = _; rw [upd_ne ne]; exact ea)
          · have leF : FLe F (eraseH F' p) := fun a u ea => by
              have ne : a ≠ p := fun z => by subst z; rw [w.nF] at ea; cases ea
              rw [erase_ne ne]
              exact le2 _ _ (by show upd F p _ a = _; rw [upd_ne ne]; exact ea)
            refine ⟨fun a u ea => ?_, fun a u ea => ?_, fun a u ea => ?_, rel.len, fun j cj vj f1 f2 => ?_, rel.inj, rel.ios, rel.ioc, fun t ht => ?_, fun a ps z => ?_⟩
            · by_cases z : a = p
              · subst z; rw [erase_same] at ea; cases ea
              · rw [erase_ne z] at ea; rw [upd_ne z]; exact rel2.fH _ _ ea
            · have ne : a ≠ p := fun z => by subst z; rw [w.nR] at ea; cases ea
              rw [upd_ne ne]; exact rel2.rH _ _ ea
            · by_cases z : a = p
              · subst z; exact w.nR
              · rw [erase_ne z] at ea; exact rel2.dj _ _ ea
            · by_cases hj : j = i
              · subst hj
                rw [e1] at f1
                cases f1
                rw [e3] at f2
                cases f2
                exact ⟨p, rfl, erase_same, w.nR, _, upd_same, ow'.mono leF⟩
              · have c0 := rel.cell j cj vj f1 f2
                have f1' : (ρ.set i (.fro (.dct ks ds)))[j]? = some cj := by rw [List.getElem?_set_ne (fun z => hj z.symm)]; exact f1
                have c2 := rel2.cell j cj vj f1' f2
                have fr : cellFree cj = true := by
                  have : (ρ.set i .no)[j]? = some cj := by rw [List.getElem?_set_ne (fun z => hj z.symm)]; exact f1
                  exact List.all_eq_true.mp hfree cj (List.mem_of_getElem? this)
                have keep : ∀ {d' : D} {p' : Addr}, cj.held = some d' → d'.dfree = true → vj = some (.ref p') → OwnAt G.K F' Rv H' p' d' → OwnAt G.K (eraseH F' p) Rv (upd H' p (.dK kvs)) p' d' := fun {d' p'} hh hd hvv q => by
                  have ne : p' ≠ p := fun z => by
                    subst z
                    subst hvv
                    exact hj (rel.inj j i cj _ d' _ p' f1 e1 hh rfl f2 e3)
                  obtain ⟨o', g1, g2⟩ := q.at_
                  exact ⟨by rw [erase_ne ne]; exact q.nF, q.nR, o', by rw [upd_ne ne]; exact g1, g2.erase hp hd⟩
                cases cj with
                | no => trivial
                | fro d' => obtain ⟨y, rfl, ry⟩ := c0; exact ⟨y, rfl, ry.mono leF⟩
                | own d' => obtain ⟨p', rfl, oy⟩ := c2; exact ⟨p', rfl, keep rfl fr rfl oy⟩
                | io d' => obtain ⟨p', rfl, oy⟩ := c2; exact ⟨p', rfl, keep rfl fr rfl oy⟩
            · obtain ⟨t1, t2, t3, ps, t4, t5, t6⟩ := rel2.tab t ht
              have ne : t.1 ≠ p := fun z => by rw [z] at t1; rw [hp] at t1; cases t1
              refine ⟨by rw [erase_ne ne]; exact t1, t2, t3, ps, by rw [upd_ne ne]; exact t4, t5, fun pos cv z => ?_⟩
              obtain ⟨c, g1, g2⟩ := t6 pos cv z
              refine ⟨c, g1, ?_⟩
              rw [erase_ne fun z => by subst z; rw [hp] at g2; unfold LamX.CodeO at g2; cases g2]
              exact g2
            · by_cases h : a = p
              · subst h; rw [erase_same] at z; cases z
              · rw [erase_ne h] at z; exact rel2.nt _ _ z
      | _ => exact q.elim
    | _ => exact q.elim
end
theorem ev_lend (i : Nat) (s : SE) (ρ : Env) {ks : List Key} {ds : List D} (h : ρ[i]? = some (.own (.dct ks ds))) {v : D} (e : s (ρ.set i (.fro (.dct ks ds))) = .ok v (ρ.set i (.fro (.dct ks ds)))) (hv : v.dfree = true) (hc : (ρ.set i .no).all cellFree = true) : sLend i s ρ = .ok v ρ := by
  unfold sLend
  rw [h]
  show (match s (ρ.set i (.fro (.dct ks ds))) with | .ok v ρ' => _ | _ => _) = _
  rw [e]
  exact if_pos ⟨rfl, hv, hc⟩
end Dt

set_option Elab.async false
set_option linter.all false
set_option maxRecDepth 100000
set_option maxHeartbeats 4000000
/-! Methods of texts (startswith, endswith, partition, split); name += int; constant tuples of pairs of texts, and dict(..) of such. -/
namespace Dt
open PySem PySem.Spec PyProof.Rows L2
/-! ### x.method(y), both texts -/
def sM1 (g : Str → Str → Option D) (so se : SE) : SE := fun ρ => (so ρ).bind fun d ρ1 => match d with
  | .str a => (se ρ1).bind fun e ρ2 => match e with
    | .str b => ofO (g a b) ρ2
    | _ => .stuck
  | _ => .stuck
@[simp] theorem ev_m1 (g : Str → Str → Option D) (so se : SE) (ρ : Env) : sM1 g so se ρ = (so ρ).bind fun d ρ1 => match d with
  | .str a => (se ρ1).bind fun e ρ2 => match e with
    | .str b => ofO (g a b) ρ2
    | _ => .stuck
  | _ => .stuck := rfl
def M1S (G : Gx) (r : V → List V → Hp → VK → Prop) (g : Str → Str → Option D) : Prop := ∀ F H a b d (Q : VK), FLe F H → g a b = some d → (∀ v H' F', New F H F' H' → Rp G.K F' v d → Q v H') → r (.str a) [.str b] H Q
section
variable {ex : Exx} {X : Cx} {W : WX} {o e : Expr} {apos pos : Pos} {so se : SE} {id : String} {name : Str}
theorem d_m1 {r : V → List V → Hp → VK → Prop} {g : Str → Str → Option D} (slot : Slot "str" name id) (ty : typeOf (.builtin id) = pure (.type "method_descriptor")) (rule : MtR X id r) (sem : M1S (GK X ex) r g) (ho : DE (GK X ex) X W o so) (he : DE (GK X ex) X W e se)
    (hs : starEach [e] X.env = [(false, eval e X.env)] := by rfl) (hbase : attributeBase o name X.env (eval o X.env) = eval o X.env := by rfl) (hline : (apos.endLine == pos.line) = true := by rfl) :
    DE (GK X ex) X W (.Call (.Attribute o name apos) [e] [] pos) (sM1 g so se) :=
  wkE (pe_m1 slot ty rule ho he hs hbase hline) fun σ H Q ⟨ρ, F, Rv, io, rel, q⟩ => by
    refine ⟨ρ, F, Rv, io, rel, ?_⟩
    unfold sM1 at q
    cases e1 : so ρ with
    | stuck => rw [e1] at q; exact q.elim
    | exc x ρ' => rw [e1] at q; exact q
    | ok d ρ1 =>
      rw [e1, R.bind_ok] at q
      intro v H1 F1 le1 rel1 rp
      cases d with
      | str a =>
        cases rp
        refine ⟨⟨a, rfl⟩, ρ1, F1, Rv, io, rel1, ?_⟩
        cases e2 : se ρ1 with
        | stuck => simp only [e2] at q; exact q.elim
        | exc x ρ' => simp only [e2] at q; exact XPost.le q le1
        | ok l ρ2 =>
          simp only [e2, R.bind_ok] at q
          intro v2 H2 F2 le2 rel2 rp2
          cases l with
          | str b =>
            cases rp2
            simp only at q
            cases e3 : g a b with
            | none => rw [e3] at q; exact q.elim
            | some d =>
              rw [e3] at q
              exact sem F2 H2 a b d Q rel2.fH e3 fun v H' F' n r => q v H' F' ((le1.trans le2).trans n.f) (rel2.after n) r
          | _ => exact q.elim
      | _ => exact q.elim
end
def gStarts (a b : Str) : Option D := some (.bl (Txt.startswith a b))
def gEnds (a b : Str) : Option D := some (.bl (Txt.endswith a b))
def gPart (a b : Str) : Option D := if (b.length == 0) = false ∧ a.length ≤ sizeLine then some (.arg [.str (Txt.partition a b).1, .str (Txt.partition a b).2.1, .str (Txt.partition a b).2.2]) else none
def gSplit (a b : Str) : Option D := if (b.length == 0) = false ∧ a.length + 2 ≤ sizeLine then some (.lst ((Txt.split a b).map D.str)) else none
theorem m1_starts {G : Gx} : M1S G (fun x xs H Q => ∃ a b, x = .str a ∧ xs = [.str b] ∧ Q (.bl (Txt.startswith a b)) H) gStarts := fun F H a b d Q fh e q => by
  cases e
  exact ⟨a, b, rfl, rfl, q _ _ _ (New.refl fh) (.bl _)⟩
theorem m1_ends {G : Gx} : M1S G (fun x xs H Q => ∃ a b, x = .str a ∧ xs = [.str b] ∧ Q (.bl (Txt.endswith a b)) H) gEnds := fun F H a b d Q fh e q => by
  cases e
  exact ⟨a, b, rfl, rfl, q _ _ _ (New.refl fh) (.bl _)⟩
theorem m1_part {G : Gx} : M1S G (fun x xs H Q => ∃ a b, x = .str a ∧ xs = [.str b] ∧ (b.length == 0) = false ∧ a.length ≤ sizeLine ∧ ∀ p, H p = none → Q (.ref p) (upd H p (.tup [.str (Txt.partition a b).1, .str (Txt.partition a b).2.1, .str (Txt.partition a b).2.2]))) gPart := fun F H a b d Q fh e q => by
  unfold gPart at e
  by_cases hc : (b.length == 0) = false ∧ a.length ≤ sizeLine
  · rw [if_pos hc] at e
    cases e
    exact ⟨a, b, rfl, rfl, hc.1, hc.2, fun p n => q _ _ _ (New.obj fh n _) (.arg (.inl (.inl upd_same)) (.cons (.str _) (.cons (.str _) (.cons (.str _) .nil))))⟩
  · rw [if_neg hc] at e; cases e
theorem m1_split {G : Gx} : M1S G (fun x xs H Q => ∃ a b, x = .str a ∧ xs = [.str b] ∧ (b.length == 0) = false ∧ a.length + 2 ≤ sizeLine ∧ rNewStrs (Txt.split a b) H Q) gSplit := fun F H a b d Q fh e q => by
  unfold gSplit at e
  by_cases hc : (b.length == 0) = false ∧ a.length + 2 ≤ sizeLine
  · rw [if_pos hc] at e
    cases e
    exact ⟨a, b, rfl, rfl, hc.1, hc.2, fun p n => q _ _ _ (New.obj fh n _) (.lst upd_same (rps_strs _))⟩
  · rw [if_neg hc] at e; cases e
/-! ### name += int -/
def sAugI (f : Int → Int → Int) (i : Nat) (se : SE) : SS := fun ρ => match (ρ[i]? : Option Cell) with
  | some (.fro (.int a)) => (se ρ).bind fun e ρ' => match e, (ρ'[i]? : Option Cell) with
    | .int b, some (.fro _) => .ok .nx (ρ'.set i (.fro (.int (f a b))))
    | _, _ => .stuck
  | _ => .stuck
@[simp] theorem ev_augI (f : Int → Int → Int) (i : Nat) (se : SE) (ρ : Env) : sAugI f i se ρ = match (ρ[i]? : Option Cell) with
  | some (.fro (.int a)) => (se ρ).bind fun e ρ' => match e, (ρ'[i]? : Option Cell) with
    | .int b, some (.fro _) => .ok .nx (ρ'.set i (.fro (.int (f a b))))
    | _, _ => .stuck
  | _ => .stuck := rfl
section
variable {ex : Exx} {X : Cx} {W : WX} {e : Expr} {x : Str} {pos' pos : Pos} {se : SE}
theorem d_augI {i : Nat} {op : Operator} {f : Int → Int → Int} (hu : At X W) (hi : X.N[i]? = some x) (hx : Loc X.env.scope x) (he : DE (GK X ex) X W e se) (ho : PIp X op (ipI f)) (hf : X.fn x = true ∨ X.env.scope.names.lookup x = some .local := by first | exact .inl rfl | exact .inr rfl | assumption) :
    DS (GK X ex) X W (.AugAssign (.Name x pos') op e pos) (sAugI f i se) :=
  wkS (ps_aug hu.nd hi hx he ho hf) fun D σ H ⟨ρ, F, Rv, io, rel, q⟩ => by
    unfold sAugI at q
    cases e1 : ρ[i]? with
    | none => rw [e1] at q; exact q.elim
    | some c =>
      rw [e1] at q
      cases c with
      | fro d =>
        cases d with
        | int a =>
          simp only at q
          obtain ⟨w, e2, y, ew, ry⟩ := rel.slot e1
          subst ew
          cases ry
          refine ⟨_, e2, ρ, F, Rv, io, rel, ?_⟩
          cases e3 : se ρ with
          | stuck => rw [e3] at q; exact q.elim
          | exc x ρ' => rw [e3] at q; exact q
          | ok d2 ρ' =>
            rw [e3, R.bind_ok] at q
            intro v H' F' le rel' rp
            cases d2 with
            | int b =>
              cases rp
              cases e4 : ρ'[i]? with
              | none => simp only [e4] at q; exact q.elim
              | some c' =>
                cases c' with
                | fro d' =>
                  simp only [e4] at q
                  exact ⟨a, b, rfl, rfl, q _ _ F' le (rel'.setFro (.int _) (fun e z => by rw [e4] at z; cases z))⟩
                | _ => simp only [e4] at q; exact q.elim
            | _ => simp only at q; exact q.elim
        | _ => exact q.elim
      | _ => exact q.elim
end
/-! ### a constant tuple of pairs of texts -/
def PairsC (K : PySem.W.Frag) (mg : Str → Option Value) (x : Str) (ps : List (Str × Str)) : Prop := ∃ (a : Addr) (bs : List Addr) (o : Obj) (n : Nat), mg x = some (.ref a) ∧ K.lookup a = some o ∧ o.cls = .type "tuple" ∧ o.dict = none ∧ o.data = .seq (bs.map Value.ref).toArray n ∧
  bs.length ≤ 16777216 ∧ Paired (fun b p => ∀ F : Hp, SqT K F b [.str p.1, .str p.2]) bs ps
def pairA (p : Str × Str) : D := .arg [.str p.1, .str p.2]
theorem pairs_rps {K : PySem.W.Frag} {F : Hp} : ∀ {bs : List Addr} {ps : List (Str × Str)}, Paired (fun b p => ∀ F : Hp, SqT K F b [.str p.1, .str p.2]) bs ps → Rps K F (bs.map V.ref) (ps.map pairA)
  | _, _, .nil => .nil
  | _, _, .cons h t => .cons (.arg (h F) (.cons (.str _) (.cons (.str _) .nil))) (pairs_rps t)
theorem vals_refs : ∀ bs : List Addr, Vals (bs.map V.ref) (bs.map Value.ref)
  | [] => .nil
  | b :: bs => .cons rfl (vals_refs bs)
section
variable {ex : Exx} {X : Cx} {W : WX} {x : Str} {p pos : Pos} {ps : List (Str × Str)}
theorem d_pairs (hg : Gl X x) (h : PairsC X.K X.mg x ps) (hd : (x == ("__debug__" : Str)) = false := by decide) : DE (GK X ex) X W (.Name x p) (sCst (.arg (ps.map pairA))) :=
  let ⟨a, bs, o, n, h1, h2, h3, _, h5, h6, h7⟩ := h
  d_globT (vs := bs.map V.ref) hg ⟨a, h1, fun F => .inr ⟨o, _, n, h2, h3, h5, by rw [List.size_toArray, List.length_map]; exact line_pos h6, by rw [List.toList_toArray]; exact vals_refs bs⟩⟩ (fun F => pairs_rps h7) hd
def rDictK (K : PySem.W.Frag) : List V → Hp → VK → Prop := fun xs H Q => ∃ (a : Addr) (bs : List Addr) (kvs : List (Key × V)) (o : Obj) (n : Nat), xs = [V.ref a] ∧ K.lookup a = some o ∧ o.cls = .type "tuple" ∧ o.dict = none ∧ o.data = .seq (bs.map Value.ref).toArray n ∧ bs.length ≤ 16777216 ∧ Paired (fun p kv => SqT K H p [kV kv.1, kv.2]) bs kvs ∧ ∀ p, H p = none → Q (.ref p) (upd H p (.dK (mergeK [] kvs)))
theorem call_dictK (calm : X.calm = true) : CallR X (.type "dict") (rDictK X.K) := by
  intro pins s σ H xs us Q I r ⟨a, ps, kvs, o, n, ex, lk, hc, hd, hdat, hz, hp, q⟩
  subst ex
  obtain ⟨u, eu, rx⟩ := vals1 r
  subst eu; cases rx
  have at1 : s.heap.get? a = some o := I.kIn _ _ lk
  have hz : ps.length ≤ sizeLine := line_pos hz
  obtain ⟨vs, prs, rel, l1, l2, hpr⟩ := pairsV I hp
  refine PySem.call_dict_pairs (knd := mixKind X.prog X.w) (kvs := prs) (PairArg.tuple a (ps.map Value.ref).toArray (fun j => ps.getD j 0) vs) (I.ok.hd calm) ⟨⟨o, n, at1, hc, hd, hdat⟩, by simp [l1], fun j k v e => ?_⟩ ⟨by omega, fun j k v e => ?_⟩ (by omega) fun h1 tk hd1 old => ?_
  · obtain ⟨b, key, e1, e2, e3, e4⟩ := hpr j k v e
    exact ⟨by simp [e1], .inl (by show s.heap.IsTuple (ps.getD j 0) #[k, v]; rw [List.getD_eq_getElem?_getD, e1]; exact e2)⟩
  · obtain ⟨b, key, e1, e2, e3, e4⟩ := hpr j k v e
    exact ⟨key, e3, e4⟩
  · have big : (s.heap.objs.size == sysModules) = false := beq_eq_false_iff_ne.mpr (Nat.ne_of_gt I.big)
    have fits : (mergeK [] kvs).length ≤ sizeLine := Nat.le_trans (length_mergeK kvs []) (by rw [List.length_nil, Nat.zero_add, rel.length, l2]; exact hz)
    exact ⟨.ref s.heap.objs.size, _, I.laid (t' := tk) (o := .dK (mergeK [] kvs)) (fun b o e => old b o (by simp) e) (Nat.le_refl _) ⟨fits, big, merged [] prs, KV.merge rel .nil, hd1⟩, rfl, q _ (I.hok.fresh (Nat.le_refl _))⟩
def kvS (p : Str × Str) : Key × V := (Sum.inr p.1, .str p.2)
def dctS (ps : List (Str × Str)) : D := .dct (ps.map fun p => Sum.inr p.1) (ps.map fun p => .str p.2)
theorem rps_snd {K : PySem.W.Frag} {F : Hp} : ∀ ps : List (Str × Str), Rps K F ((ps.map kvS).map (·.2)) (ps.map fun p => .str p.2)
  | [] => .nil
  | p :: ps => .cons (.str _) (rps_snd ps)
theorem paired_snd {K : PySem.W.Frag} {H : Hp} : ∀ {bs : List Addr} {ps : List (Str × Str)}, Paired (fun b p => ∀ F : Hp, SqT K F b [.str p.1, .str p.2]) bs ps → Paired (fun b kv => SqT K H b [kV kv.1, kv.2]) bs (ps.map kvS)
  | _, _, .nil => .nil
  | _, _, .cons h t => .cons (h H) (paired_snd t)
/-- dict(NAME) -/
theorem d_dictC {q : Pos} (hu : At X W) (hg : Gl X x) (h : PairsC X.K X.mg x ps) (gd : Gl X "dict") (md : X.mg "dict" = none) (hm : mergeK [] (ps.map kvS) = ps.map kvS) (hd : (x == ("__debug__" : Str)) = false := by decide)
    (hs : starEach [Expr.Name x q] X.env = (false, eval (.Name x q) X.env) :: starEach [] X.env := by rfl) (hpl : (backTo pos (starEach [] X.env)).any (·.1) = false := by rfl) :
    DF (GK X ex) X W (.Call (.Name "dict" p) [.Name x q] [] pos) (sCst (dctS ps)) :=
  let ⟨a, bs, o, n, h1, h2, h3, h4, h5, h6, h7⟩ := h
  wkE (pe_callTy (call_dictK hu.calm) gd md (by decide +kernel) (pa_cons (pe_glob hg h1 (show RelV (.ref a) (.ref a) from rfl) hd) pa_nil hs) (by decide) (by decide) hs hpl) fun σ H Q ⟨ρ, F, Rv, io, rel, k⟩ => by
    refine ⟨a, bs, ps.map kvS, o, n, rfl, h2, h3, h4, h5, h6, paired_snd h7, fun pp np => ?_⟩
    rw [hm]
    have nF : F pp = none := rel.fH.noneOf np
    have nR : Rv pp = none := rel.rH.noneOf np
    exact k pp _ F (FLe.refl F) (rel.newH np _) ⟨nF, nR, _, upd_same, ⟨_, rfl, by rw [List.map_map]; rfl, rps_snd ps⟩⟩ (rel.loose np)
end
/-! ### a, b = new object, y -/
def sParF (i j : Nat) (sF sE : SE) : SS := fun ρ => (sF ρ).bind fun d ρ1 => (sE ρ1).bind fun e ρ2 => (gOwn i d ρ2).bind fun _ ρ3 => (gSet j e ρ3).bind fun _ ρ4 => .ok .nx ρ4
@[simp] theorem ev_parF (i j : Nat) (sF sE : SE) (ρ : Env) : sParF i j sF sE ρ = (sF ρ).bind fun d ρ1 => (sE ρ1).bind fun e ρ2 => (gOwn i d ρ2).bind fun _ ρ3 => (gSet j e ρ3).bind fun _ ρ4 => .ok .nx ρ4 := rfl
section
variable {ex : Exx} {X : Cx} {W : WX} {pos : Pos}
theorem d_parF {i j : Nat} {x y : Str} {a b : Expr} {sF sE : SE} {px py pt : Pos} {kt k2 pt2} (hu : At X W) (hi : X.N[i]? = some x) (hj : X.N[j]? = some y) (hij : i ≠ j) (hx : X.env.scope.names.lookup x = some .local) (hy : X.env.scope.names.lookup y = some .local)
    (ha : DF (GK X ex) X W a sF) (hb : DE (GK X ex) X W b sE) (hw : swappedStores [.Tuple [.Name x px, .Name y py] kt pt] (.Tuple [a, b] k2 pt2) X.env = pure (some [x, y])) (hs : swapsWithSole [.Tuple [.Name x px, .Name y py] kt pt] (.Tuple [a, b] k2 pt2) pos.line X.env = pure false := by rfl)
    (h1 : starEach [a, b] X.env = (false, eval a X.env) :: starEach [b] X.env := by rfl) (h2 : starEach [b] X.env = (false, eval b X.env) :: starEach [] X.env := by rfl) :
    DS (GK X ex) X W (.Assign [.Tuple [.Name x px, .Name y py] kt pt] (.Tuple [a, b] k2 pt2) pos) (sParF i j sF sE) := wkS (ps_par hu.calm hu.nd hi hj hij hx hy (pa_cons ha (pa_cons hb pa_nil h2) h1) hw hs) fun D σ H ⟨ρ, F, Rv, io, rel, q⟩ => by
  refine ⟨ρ, F, Rv, io, rel, ?_⟩
  rw [ev_parF] at q
  cases e1 : sF ρ with
  | stuck => rw [e1] at q; exact q.elim
  | exc x ρ1 => rw [e1] at q; exact q
  | ok d ρ1 =>
    rw [e1, R.bind_ok] at q
    intro p H1 F1 le1 rel1 ow lo
    obtain ⟨o, ho, oo⟩ := ow.at_
    refine ⟨ρ1, F1, _, io, rel1.keep ho oo ow.nF lo, ?_⟩
    cases e2 : sE ρ1 with
    | stuck => rw [e2] at q; exact q.elim
    | exc x ρ2 => rw [e2] at q; exact fun cls dd σ' H' F' le rel' xr => q cls dd σ' H' F' (le1.trans le) (rel'.resDrop ow.nR).1 xr
    | ok e ρ2 =>
      rw [e2, R.bind_ok] at q
      intro v H2 F2 le2 rel2 rp
      obtain ⟨relD, n1, n2, lo2⟩ := rel2.resDrop ow.nR
      refine ⟨.ref p, v, rfl, ?_⟩
      cases e3 : gOwn i d ρ2 with
      | stuck => rw [e3] at q; exact q.elim
      | exc x ρ3 => unfold gOwn at e3; split at e3 <;> cases e3
      | ok u ρ3 =>
        rw [e3, R.bind_ok] at q
        obtain ⟨hio, rfl⟩ := gOwn_ok e3
        have relS := relD.setOwn (i := i) (p := p) (d := d) ⟨n1, ow.nR, o, n2, oo.mono le2⟩ lo2 hio
        cases e4 : gSet j e (ρ2.set i (.own d)) with
        | stuck => rw [e4] at q; exact q.elim
        | exc x ρ4 => unfold gSet at e4; split at e4 <;> cases e4
        | ok u ρ4 =>
          rw [e4, R.bind_ok] at q
          obtain ⟨h4, rfl⟩ := gSet_ok e4
          exact q _ H2 F2 (le1.trans le2) (relS.setFro rp h4)
end
/-! ### a def with one star parameter that bears another name -/
section
variable {P : Program} {w : World} {K : PySem.W.Frag} {mg : Str → Option Value} {base : Heap}
structure FnSA (K : PySem.W.Frag) (mg : Str → Option Value) (x q : Str) (st : Stmt) (pv : Str) : Prop where
  there : ∃ f fd, Fun K q q st f fd ∧ mg x = some (.ref f) ∧ ∀ us rest : List Value, us.length = ([] : List Str).length → bindArgs fd ⟨us ++ rest, []⟩ = (newTuple rest >>= fun t => pure (([] : List Str).zip us ++ [(pv, t)]))
theorem cal_SA {x q : Str} {st : Stmt} {N : List Str} {pv : Str} {k : Nat} {body : SS} (ea : String → Addr) (F : FnSA K mg x q st pv) (S : FnScope N [pv] (defScope st))
    (h : ∀ (f : Addr) (cdv : Value) (A : Around) (outer : List PySem.Env) (s : Shared) (H : Hp) (E : XK), Room k (A.deeper (envOfC q (defScope st) s.heap.objs.size f cdv)) →
      DSs ⟨K, ⟨ea, []⟩⟩ (cxOf (L2N.CX P w) P w K mg base N q (defScope st) f cdv A outer s H E) (wE E) (defBody st) body) : CalS P w K mg base x (k + 1) (spS ⟨K, ⟨ea, []⟩⟩ (runP N.length 1 body)) := by
  obtain ⟨f, fd, F, hm, hb⟩ := F.there
  exact ⟨f, d_defS ea F S hb (h f), hm, F.kp⟩
end
end Dt

set_option Elab.async false
set_option linter.all false
set_option maxRecDepth 100000
set_option maxHeartbeats 4000000
/-! A generator's body with `for`: gs_for. -/
namespace Dt
open PySem PySem.Spec PyProof.Rows L2 GenW
section
variable {X : Cx} {tg iter : Expr} {body : List Stmt} {pos : Pos}
def tGFor (wi : TI) (g : TG) (tb : TGn) : TGn := fun D ys σ H => wi σ H fun J H1 => ∃ W : Nat → Nat → List V → L2.St → Hp → Prop, (∃ m, W 0 m ys σ H1) ∧ ∀ i m ys σ H, W i m ys σ H →
  (J.stop i H ∧ D.nx ys σ H) ∨ (J.go i H ∧ ∃ N : List V → L2.St → Hp → Prop, (∀ ys' σ' H', N ys' σ' H' → ∃ m', m' < m ∧ W (i + 1) m' ys' σ' H') ∧ ∀ x H', J.yld i H x H' → g x σ H' fun σ2 H2 => tb { D with nx := N, ct := N, bk := D.nx } ys σ2 H2)
theorem fpOk_pins {pins pins' : List (Addr × Obj)} {H : Hp} {b : Addr} (h : FpOk X pins H b) (e : ∀ p ∈ pins', ∃ q ∈ pins, q.1 = p.1) : FpOk X pins' H b := by
  obtain ⟨h1, h2, h3, h4, h5, h6⟩ := h
  refine ⟨h1, h2, h3, h4, h5, fun p hp => ?_⟩
  rcases List.mem_append.mp hp with z | z
  · exact h6 p (List.mem_append_left _ z)
  · obtain ⟨q, hq, eq⟩ := e p z
    rw [← eq]
    exact h6 q (List.mem_append_right _ hq)
theorem gs_for {wi : TI} {g : TG} {tb : TGn} (hp : PassesOwn (model X.prog X.w) X.A X.env X.xe) (hc : X.calm = true) (hi : PI X tg iter wi) (hg : PG X tg g) (hb : GSs X body tb)
    (hs : ∀ x, foldedSetIterable iter X.env x = pure x := by intro _; rfl) : GS X (.For tg iter body [] pos) (tGFor wi g tb) := by
  refine ⟨fun A S ip R n ys s₀ c fs K J gd lv s σ H D gc hn k hI ht => ?_⟩
  obtain ⟨acc, cc, r, I⟩ := hI
  rw [exec_For]
  refine seg_bind_wrap (wpAny_standAt ?_)
  refine seg_bind_wrap ?_
  rw [gc.over]
  refine wpAny_mono (hi.run _ s σ H _ I ht) (fun v s1 h1 => ?_) fun x s' hx => k.exc n s₀ x s' hx
  refine seg_bind_wrap (wpAny_of_eq (hs v) ?_)
  refine seg_bind_wrap (wpAny_standAt ?_)
  refine seg_bind_wrap (wpAny_holding ?_)
  rw [gc.over]
  refine wpAny_mono h1 (fun itv s2 h2 => ?_) fun x s' hx => k.exc n s₀ x s' hx
  obtain ⟨it, fp, tn, J', H2, e, I2, T, st2, f2, W, ⟨m0, w0⟩, turn⟩ := h2
  subst e
  refine seg_call fun p => ?_
  have gl := fun (c' : Code) (hw : c'.weight = 0) (hu : c'.cUnits = 0) (kk : Result → Sem PySem.Fin) => gc_loop (k := kk) (c' := c') (l := lv []) (kp := []) (p := p) gc hw hu
  have young : ∀ {acc cc : _} {H' : Hp}, (∀ b ∈ fp, H' b = none) → ∀ b ∈ fp, FpOk X ((S, lstObj acc cc) :: ip) H' b := fun {acc' cc' H'} hn b hb => fpOk_pins ⟨hn b hb, (f2 b hb).2⟩ fun p hp => by
    rcases List.mem_cons.mp hp with rfl | hp
    · exact ⟨_, List.mem_cons_self .., rfl⟩
    · exact ⟨p, List.mem_cons_of_mem _ hp, rfl⟩
  have loop : ∀ (m i n : Nat) (ys : List V) (s₀ s : Shared) (σ : L2.St) (H : Hp), n + ys.length = sizeLine → W i m ys σ H → GI X S ip ys σ H s → tn i s.heap → (∀ b ∈ fp, H b = none) →
      Seg (model X.prog X.w) A R (GY X S) n s₀ (.forLoop tg (.ref it) body [] X.env) ((model X.prog X.w).den (.forLoop tg (.ref it) body [] X.env))
        (.ret (fun r => ((match r with | .ok f => (.pure f : Sem Flow) | .error e => .raise e).onRaise (cameBack X.env)).wrap K J gd lv) none (gd false) (lv []) c p [] :: fs) s := by
    intro m
    induction m using Nat.strongRecOn with
    | ind m ih =>
      intro i n ys s₀ s σ H hn w hI st fr
      have ee : ∀ (c' : Code) (hw : c'.weight = 0) (hu : c'.cUnits = 0) (n : Nat) (s₀ : Shared) (x : Value) (s' : Shared), X.xe x s' → Seg (model X.prog X.w) A R (GY X S) n s₀ c'
          ((do noteFrame x X.env; theTreesLotGoes x : Sem Unit).bind fun _ => .raise x)
          (.ret (fun r => ((match r with | .ok f => (.pure f : Sem Flow) | .error e => .raise e).onRaise (cameBack X.env)).wrap K J gd lv) none (gd false) (lv []) c p [] :: fs) s' := fun c' hw hu n s₀ x s' hx => by
        rw [Sem.bind_eq_wrap]
        refine seg_wrap ?_
        rw [(gl c' hw hu _).over]
        refine wpAny_bind (wpAny_mono (hp x s' hx) (fun _ s'' hcb => wpAny_theTreesLotGoes ?_) fun y s'' hcb => ?_)
        · exact seg_leaf (.error x) (seg_cameBack gc k hcb)
        · exact seg_leaf (.error y) (seg_cameBack gc k hcb)
      show Seg _ A R _ n s₀ _ ((forTurn tg (.ref it) body [] X.env).onRaise (fun x => do noteFrame x X.env; theTreesLotGoes x)) _ s
      rw [Sem.onRaise_eq_wrap]
      unfold forTurn
      refine seg_bind_wrap (wpAny_standAt ?_)
      refine seg_bind_wrap (wpAny_onRaise ?_)
      rw [(gl _ rfl rfl _).over]
      obtain ⟨acc, cc, rv, I⟩ := hI
      rcases turn i m ys σ H w with ⟨stop, qn⟩ | ⟨go, N, hN, step⟩
      · refine wpAny_mono (T.done X rfl rfl rfl hc i _ s σ H X.xe I (young fr) st stop) (fun r' s4 h4 => ?_) fun x s' hx => wpAny_standAt (ee _ rfl rfl n s₀ x s' hx)
        obtain ⟨hr, I4⟩ := h4
        subst hr
        refine seg_again rfl ?_
        exact seg_leaf (.ok .next) (k.ok n ys s₀ s4 .next hn ⟨σ, H, ⟨acc, cc, rv, I4⟩, qn⟩)
      · refine wpAny_mono (T.item X rfl rfl rfl hc i _ s σ H X.xe I (young fr) st go) (fun r' s4 h4 => ?_) fun x s' hx => wpAny_standAt (ee _ rfl rfl n s₀ x s' hx)
        obtain ⟨u, hr, h4⟩ := h4
        subst hr
        refine seg_bind_wrap ?_
        rw [(gl _ rfl rfl _).over]
        refine wpAny_mono h4 (fun _ s5 h5 => ?_) fun x s' hx => ee _ rfl rfl n s₀ x s' hx
        obtain ⟨x, H5, I5, r5, y5, st5, fr5⟩ := h5
        have I5' := I5.pinned (young fr5) (T.obj _ _ st5)
        refine seg_bind_wrap ?_
        rw [(gl _ rfl rfl _).over]
        refine wpAny_mono (hg.run _ s5 σ H5 x u _ I5' r5 (step x H5 y5)) (fun _ s6 h6 => ?_) fun x s' hx => ee _ rfl rfl n s₀ x s' hx
        obtain ⟨σ6, H6, I6, q6⟩ := h6
        rw [Sem.bind_eq_wrap', Sem.wrap_wrap]
        have again : ∀ {ys' : List V} {s7 : Shared} {σ7 : L2.St} {H7 : Hp}, GI X S (ip ++ pinsAt fp s5.heap) ys' σ7 H7 s7 → GI X S ip ys' σ7 H7 s7 ∧ tn (i + 1) s7.heap ∧ ∀ b ∈ fp, H7 b = none := fun {ys' s7 σ7 H7} h7 => by
          obtain ⟨acc7, cc7, r7, I7⟩ := h7
          have I7 : Inv X (((S, lstObj acc7 cc7) :: ip) ++ pinsAt fp s5.heap) σ7 H7 s7 := I7
          refine ⟨⟨acc7, cc7, r7, I7.unpinned⟩, T.keep _ _ _ st5 fun b hb o e => (I7.pin (b, o) (List.mem_append_right _ (List.mem_append_right _ (mem_pinsAt hb e)))).1, fun b hb => ?_⟩
          obtain ⟨o, e, d⟩ := T.obj _ _ st5 b hb
          exact (I7.pin (b, o) (List.mem_append_right _ (List.mem_append_right _ (mem_pinsAt hb e)))).2.1
        have ipS : ∀ p ∈ ip ++ pinsAt fp s5.heap, p.1 ≠ S := fun p hp => by
          rcases List.mem_append.mp hp with z | z
          · exact gc.ip p z
          · obtain ⟨hb, _⟩ := of_pinsAt z
            obtain ⟨_, _, _, _, _, f6⟩ := young (acc := acc) (cc := cc) fr5 p.1 hb
            exact fun q => f6 (S, lstObj acc cc) (List.mem_append_right _ (List.mem_cons_self ..)) q.symm
        have g0 := gl (.forLoop tg (.ref it) body [] X.env) rfl rfl (fun r => ((match r with | .ok f => (.pure f : Sem Flow) | .error e => .raise e).onRaise (cameBack X.env)).wrap K J gd lv)
        refine hb.run A S (ip ++ pinsAt fp s5.heap) R n ys s₀ _ _ _ _ _ _ s6 σ6 H6 { D with nx := N, ct := N, bk := D.nx } ⟨g0.pn, ipS, g0.apart, g0.over, g0.split, g0.guard, rfl⟩ hn ⟨fun n' ys' s₀' s7 f hn' hs => ?_, fun n' s₀' x s7 hx => ?_⟩ ⟨acc, cc, rv, I6⟩ q6
        · cases f with
          | next =>
            obtain ⟨σ7, H7, h7, n7⟩ := hs
            obtain ⟨g7, t7, fr7⟩ := again h7
            obtain ⟨m', hm, w7⟩ := hN ys' σ7 H7 n7
            exact seg_again rfl (ih m' hm (i + 1) n' ys' s₀' s7 σ7 H7 hn' w7 g7 t7 fr7)
          | cont =>
            obtain ⟨σ7, H7, h7, n7⟩ := hs
            obtain ⟨g7, t7, fr7⟩ := again h7
            obtain ⟨m', hm, w7⟩ := hN ys' σ7 H7 n7
            exact seg_again rfl (ih m' hm (i + 1) n' ys' s₀' s7 σ7 H7 hn' w7 g7 t7 fr7)
          | brk =>
            obtain ⟨σ7, H7, h7, q7⟩ := hs
            exact seg_leaf (.ok .next) (k.ok n' ys' s₀' s7 .next hn' ⟨σ7, H7, (again h7).1, q7⟩)
          | ret v =>
            obtain ⟨x7, σ7, H7, h7, r7, q7⟩ := hs
            exact seg_leaf (.ok (.ret v)) (k.ok n' ys' s₀' s7 (.ret v) hn' ⟨x7, σ7, H7, (again h7).1, r7, q7⟩)
        · exact ee _ rfl rfl n' s₀' x s7 hx
  exact loop m0 0 n ys s₀ s2 σ H2 hn w0 ⟨acc, cc, r, I2⟩ st2 fun b hb => (f2 b hb).1
end
end Dt

set_option Elab.async false
set_option linter.all false
set_option maxRecDepth 100000
set_option maxHeartbeats 4000000
/-! Generator defs as functions of data: what they hand out. -/
namespace Dt
open PySem PySem.Spec PyProof.Rows L2 GenW
/-- a statement of a generator: what is out so far, the environment -/
abbrev SGn := List D → Env → R (Fl × List D)
def GPost {T : List (Addr × Str)} (G : Gx) (W : WX) (io : Io T) (Rv F : Hp) (r : R (Fl × List D)) (D' : GEnds) : Prop := match r with
  | .ok (.nx, o) ρ' => ∀ ys σ' H' F', FLe F F' → Rel G.K io Rv ρ' F' σ' H' → Rps G.K F' ys o → D'.nx ys σ' H'
  | .ok (.bk, o) ρ' => ∀ ys σ' H' F', FLe F F' → Rel G.K io Rv ρ' F' σ' H' → Rps G.K F' ys o → D'.bk ys σ' H'
  | .ok (.ct, o) ρ' => ∀ ys σ' H' F', FLe F F' → Rel G.K io Rv ρ' F' σ' H' → Rps G.K F' ys o → D'.ct ys σ' H'
  | .ok (.rt d, o) ρ' => ∀ ys v σ' H' F', FLe F F' → Rel G.K io Rv ρ' F' σ' H' → Rps G.K F' ys o → Rp G.K F' v d → D'.rt ys v H'
  | .exc x ρ' => XPost G W io Rv F ρ' x
  | .stuck => False
theorem GPost.le {G : Gx} {W : WX} {T : List (Addr × Str)} {io : Io T} {Rv F F1 : Hp} {r : R (Fl × List D)} {D' : GEnds} (h : GPost G W io Rv F r D') (le : FLe F F1) : GPost G W io Rv F1 r D' := by
  cases r with
  | stuck => exact h
  | exc x ρ' => exact XPost.le h le
  | ok p ρ' =>
    obtain ⟨f, o⟩ := p
    cases f with
    | nx => exact fun ys σ' H' F' l => h ys σ' H' F' (le.trans l)
    | bk => exact fun ys σ' H' F' l => h ys σ' H' F' (le.trans l)
    | ct => exact fun ys σ' H' F' l => h ys σ' H' F' (le.trans l)
    | rt d => exact fun ys v σ' H' F' l => h ys v σ' H' F' (le.trans l)
def tGn (G : Gx) (W : WX) (s : SGn) : TGn := fun D' ys σ H => ∃ ρ F Rv, ∃ io : Io G.ex.tabs, ∃ o, Rel G.K io Rv ρ F σ H ∧ Rps G.K F ys o ∧ GPost G W io Rv F (s o ρ) D'
theorem wkGS {X : Cx} {st : Stmt} {t u : TGn} (h : GS X st t) (w : ∀ D' ys σ H, u D' ys σ H → t D' ys σ H) : GS X st u := ⟨fun A S ip R n ys s₀ c fs K J gd lv s σ H D' g hn k hI ht => h.run A S ip R n ys s₀ c fs K J gd lv s σ H D' g hn k hI (w D' ys σ H ht)⟩
theorem wkGSs {X : Cx} {st : List Stmt} {t u : TGn} (h : GSs X st t) (w : ∀ D' ys σ H, u D' ys σ H → t D' ys σ H) : GSs X st u := ⟨fun A S ip R n ys s₀ c fs K J gd lv s σ H D' g hn k hI ht => h.run A S ip R n ys s₀ c fs K J gd lv s σ H D' g hn k hI (w D' ys σ H ht)⟩
abbrev DGn (G : Gx) (X : Cx) (W : WX) (st : Stmt) (s : SGn) : Prop := GS X st (tGn G W s)
abbrev DGns (G : Gx) (X : Cx) (W : WX) (st : List Stmt) (s : SGn) : Prop := GSs X st (tGn G W s)
def gnP (s : SS) : SGn := fun o ρ => (s ρ).bind fun f ρ' => .ok (f, o) ρ'
def gnN : SGn := fun o ρ => .ok (.nx, o) ρ
def gnS (a b : SGn) : SGn := fun o ρ => (a o ρ).bind fun p ρ' => match p.1 with
  | .nx => b p.2 ρ'
  | _ => .ok p ρ'
def gnY (s : SE) : SGn := fun o ρ => if o.length < sizeLine then (s ρ).bind fun d ρ' => .ok (.nx, o ++ [d]) ρ' else .stuck
def forGn (g : SG) (s : SGn) : List D → SGn
  | [], o, ρ => .ok (.nx, o) ρ
  | d :: ds, o, ρ => (g d ρ).bind fun _ ρ1 => (s o ρ1).bind fun p ρ2 => match p.1 with
    | .nx => forGn g s ds p.2 ρ2
    | .ct => forGn g s ds p.2 ρ2
    | .bk => .ok (.nx, p.2) ρ2
    | .rt _ => .ok p ρ2
def gnFor (it : SA) (g : SG) (s : SGn) : SGn := fun o ρ => (it ρ).bind fun ds ρ' => forGn g s ds o ρ'
section
variable {ex : Exx} {X : Cx} {W : WX} {st : Stmt} {rest : List Stmt} {tg : Expr} {pos yp : Pos} {e : Expr}
theorem dg_plain {s : SS} (h : DS (GK X ex) X W st s) : DGn (GK X ex) X W st (gnP s) := wkGS (gs_ps h) fun D' ys σ H ⟨ρ, F, Rv, io, o, rel, ro, q⟩ => by
  refine ⟨ρ, F, Rv, io, rel, ?_⟩
  unfold gnP at q
  cases e : s ρ with
  | stuck => rw [e] at q; exact q.elim
  | exc x ρ' => rw [e] at q; exact q
  | ok f ρ' =>
    rw [e, R.bind_ok] at q
    cases f with
    | nx => exact fun σ' H' F' le rel' => q ys σ' H' F' le rel' (Rps.mono le ro)
    | bk => exact fun σ' H' F' le rel' => q ys σ' H' F' le rel' (Rps.mono le ro)
    | ct => exact fun σ' H' F' le rel' => q ys σ' H' F' le rel' (Rps.mono le ro)
    | rt d => exact fun v σ' H' F' le rel' rp => q ys v σ' H' F' le rel' (Rps.mono le ro) rp
theorem dg_nil : DGns (GK X ex) X W [] gnN := wkGSs gss_nil fun D' ys σ H ⟨ρ, F, Rv, io, o, rel, ro, q⟩ => q ys σ H F (FLe.refl F) rel ro
theorem dg_cons {a b : SGn} (ha : DGn (GK X ex) X W st a) (hb : DGns (GK X ex) X W rest b) : DGns (GK X ex) X W (st :: rest) (gnS a b) := wkGSs (gss_cons ha hb) fun D' ys σ H ⟨ρ, F, Rv, io, o, rel, ro, q⟩ => by
  refine ⟨ρ, F, Rv, io, o, rel, ro, ?_⟩
  unfold gnS at q
  cases e : a o ρ with
  | stuck => rw [e] at q; exact q.elim
  | exc x ρ' => rw [e] at q; exact q
  | ok p ρ' =>
    rw [e, R.bind_ok] at q
    obtain ⟨f, o'⟩ := p
    cases f with
    | nx => exact fun ys' σ' H' F' le rel' ro' => ⟨ρ', F', Rv, io, o', rel', ro', GPost.le q le⟩
    | bk => exact q
    | ct => exact q
    | rt d => exact q
theorem dg_yield {s : SE} (he : DE (GK X ex) X W e s) (hco : X.env.scope.isCoroutine = false := by rfl) (hi : interactive X.env = false := by rfl) : DGn (GK X ex) X W (.Expr (.Yield (some e) yp) pos) (gnY s) :=
  wkGS (gs_yield he hco hi) fun D' ys σ H ⟨ρ, F, Rv, io, o, rel, ro, q⟩ => by
    unfold gnY at q
    have hl := ro.length
    by_cases hz : o.length < sizeLine
    · rw [if_pos hz] at q
      refine ⟨by omega, ρ, F, Rv, io, rel, ?_⟩
      cases e1 : s ρ with
      | stuck => rw [e1] at q; exact q.elim
      | exc x ρ' => rw [e1] at q; exact q
      | ok d ρ' =>
        rw [e1, R.bind_ok] at q
        exact fun v H' F' le rel' rp => q (ys ++ [v]) σ H' F' le rel' ((Rps.mono le ro).append (.cons rp .nil))
    · rw [if_neg hz] at q; exact q.elim
theorem dg_for {iter : Expr} {body : List Stmt} {it : SA} {g : SG} {s : SGn} {js : List Nat} (hu : At X W) (hp : PassesOwn (model X.prog X.w) X.A X.env X.xe) (hi : DI (GK X ex) X W tg iter it) (hg : DG (GK X ex) X W js tg g) (hb : DGns (GK X ex) X W body s)
    (hs : ∀ x, foldedSetIterable iter X.env x = pure x := by intro _; rfl) : DGn (GK X ex) X W (.For tg iter body [] pos) (gnFor it g s) := wkGS (gs_for hp hu.calm hi hg hb hs) fun D' ys σ H ⟨ρ, F, Rv, io, o, rel, ro, q⟩ => by
  refine ⟨ρ, F, Rv, io, rel, ?_⟩
  unfold gnFor at q
  cases e : it ρ with
  | stuck => rw [e] at q; exact q.elim
  | exc x ρ' => rw [e] at q; exact q
  | ok ds ρ1 =>
    rw [e, R.bind_ok] at q
    intro J H1 F1 le1 rel1 J1
    refine ⟨fun i m ys σ H => m = ds.length - i ∧ i ≤ ds.length ∧ ∃ (ρi : Env) (Fi : Hp) (oi : List D), FLe F1 Fi ∧ Rel X.K io Rv ρi Fi σ H ∧ Rps X.K Fi ys oi ∧ GPost (GK X ex) W io Rv Fi (forGn g s (ds.drop i) oi ρi) D', ⟨ds.length, rfl.trans (Nat.sub_zero _).symm, Nat.zero_le _, ρ1, F1, o, FLe.refl _, rel1, Rps.mono le1 ro, GPost.le q le1⟩, ?_⟩
    rintro i m ys σ H ⟨rfl, hi, ρi, Fi, oi, lei, reli, roi, qi⟩
    by_cases hlt : i < ds.length
    · obtain ⟨d, hd, hdr⟩ := drop_at hlt
      rw [hdr] at qi
      unfold forGn at qi
      refine .inr ⟨J1.go i Fi H lei reli.fH hlt, fun ys σ H => ∃ (ρi : Env) (Fi : Hp) (oi : List D), FLe F1 Fi ∧ Rel X.K io Rv ρi Fi σ H ∧ Rps X.K Fi ys oi ∧ GPost (GK X ex) W io Rv Fi (forGn g s (ds.drop (i + 1)) oi ρi) D', fun ys' σ' H' z => ⟨ds.length - (i + 1), by omega, rfl, hlt, z⟩, fun xv H' y => ?_⟩
      obtain ⟨F2, nw, rp⟩ := J1.yld i Fi H H' xv d lei reli.fH hd y
      refine ⟨d, ρi, F2, Rv, io, reli.after nw, rp, ?_⟩
      cases e3 : g d ρi with
      | stuck => rw [e3] at qi; exact qi.elim
      | exc x ρ' => rw [e3] at qi; exact XPost.le qi nw.f
      | ok u ρ3 =>
        rw [e3, R.bind_ok] at qi
        intro σ3 H3 F3 le3 rel3 _
        have le := nw.f.trans le3
        refine ⟨ρ3, F3, Rv, io, oi, rel3, Rps.mono le roi, ?_⟩
        cases e4 : s oi ρ3 with
        | stuck => rw [e4] at qi; exact qi.elim
        | exc x ρ' => rw [e4] at qi; exact XPost.le qi le
        | ok p ρ4 =>
          rw [e4, R.bind_ok] at qi
          obtain ⟨f, o4⟩ := p
          cases f with
          | nx => exact fun ys4 σ4 H4 F4 le4 rel4 ro4 => ⟨ρ4, F4, o4, lei.trans (le.trans le4), rel4, ro4, GPost.le qi (le.trans le4)⟩
          | ct => exact fun ys4 σ4 H4 F4 le4 rel4 ro4 => ⟨ρ4, F4, o4, lei.trans (le.trans le4), rel4, ro4, GPost.le qi (le.trans le4)⟩
          | bk => exact fun ys4 σ4 H4 F4 le4 rel4 ro4 => qi ys4 σ4 H4 F4 (le.trans le4) rel4 ro4
          | rt d => exact fun ys4 v σ4 H4 F4 le4 rel4 ro4 rp4 => qi ys4 v σ4 H4 F4 (le.trans le4) rel4 ro4 rp4
    · have hi2 : i = ds.length := by omega
      subst hi2
      rw [List.drop_eq_nil_of_le (Nat.le_refl _)] at qi
      unfold forGn at qi
      exact .inl ⟨J1.stop Fi H lei reli.fH, qi ys σ H Fi (FLe.refl _) reli roi⟩
end
/-! ### the def, its call, list(f(..)) -/
/-- a generator def's promise: what it hands out, of frozen data; no exception -/
def spG (G : Gx) (n : Nat) (g : List D → Option (List D)) : SpG := fun vs H Q _ => ∃ ds F Rv, vs.length = n ∧ Apart F Rv H ∧ Rps G.K F vs ds ∧ match g ds with
  | some out => ∀ ys H' F', FLe F F' → Apart F' Rv H' → Rps G.K F' ys out → Q ys H'
  | none => False
def runGn (m n : Nat) (body : SGn) : List D → Option (List D) := fun ds => match body [] (ds.map Cell.fro ++ List.replicate (m - n) Cell.no) with
  | .ok (.nx, o) _ => some o
  | _ => none
structure CalG (P : Program) (w : World) (K : PySem.W.Frag) (mg : Str → Option Value) (base : Heap) (x : Str) (k : Nat) (sp : SpG) : Prop where
  there : ∃ f fd ps, GFn P w K mg base k f fd ps sp ∧ mg x = some (.ref f) ∧ PySem.W.keepIn K (.ref f) = true ∧ Binds K fd ps []
section
variable {P : Program} {w : World} {K : PySem.W.Frag} {mg : Str → Option Value} {base : Heap}
theorem at_gen {N ps : List Str} {qual : Str} {scope : Scope} {f : Addr} {cdv : Value} {A : Around} {outer : List PySem.Env} {s : Shared} {H : Hp} {E : XK} {pn : List (Addr × Obj)} {k : Nat} (S : GScope N ps scope) (hr : Room k (A.deeper (envOfC qual scope s.heap.objs.size f cdv))) :
    At (gcxOf P w K mg base N qual scope f cdv A outer s H E pn) W0 := ⟨rfl, S.nd, hr.units, takes0N⟩
theorem cal_G {x : Str} {st : Stmt} {N ps : List Str} {k : Nat} {body : SGn} (ea : String → Addr) (F : Fn K mg x st ps) (S : GScope N ps (defScope st))
    (h : ∀ (f : Addr) (cdv : Value) (A : Around) (outer : List PySem.Env) (s : Shared) (H : Hp) (E : XK) (pn : List (Addr × Obj)), Room k (A.deeper (envOfC x (defScope st) s.heap.objs.size f cdv)) →
      DGns ⟨K, ⟨ea, []⟩⟩ (gcxOf P w K mg base N x (defScope st) f cdv A outer s H E pn) W0 (defBody st) body) : CalG P w K mg base x (k + 1) (spG ⟨K, ⟨ea, []⟩⟩ ps.length (runGn N.length ps.length body)) := by
  obtain ⟨f, fd, F, hm, hb⟩ := F.there
  refine ⟨f, fd, ps, ?_, hm, F.kp, hb⟩
  obtain ⟨_, _, _, _, _, _, cd, _, _, e, l, c⟩ := F.ex
  subst e
  refine gfn_of l c S (fun vs H Q E ⟨_, _, _, hl, _⟩ => hl) fun A outer s H vs Q E pn hr ⟨ds, F0, Rv, hl, ap, r, q⟩ => ⟨_, h f cd A outer s H E pn hr, ?_⟩
  have e0 : L2.start N vs = vs.map some ++ List.replicate (N.length - ps.length) none := by unfold L2.start; rw [hl]
  rw [e0]
  refine ⟨_, F0, Rv, {}, [], rel_start ap r, .nil, ?_⟩
  unfold runGn at q
  cases e : body [] (ds.map Cell.fro ++ List.replicate (N.length - ps.length) Cell.no) with
  | stuck => rw [e] at q; exact q.elim
  | exc x ρ' => rw [e] at q; exact q.elim
  | ok p ρ' =>
    obtain ⟨fl, o⟩ := p
    rw [e] at q
    cases fl with
    | nx => exact fun ys σ' H' F' le rel ro => q ys H' F' le ⟨rel.fH, rel.rH, rel.dj, rel.nt⟩ ro
    | bk => exact q.elim
    | ct => exact q.elim
    | rt d => exact q.elim
end
section
variable {ex : Exx} {X : Cx} {W : WX} {x nm : Str} {k n : Nat} {g : List D → Option (List D)} {e : Expr} {es : List Expr} {sA : SA} {p pos pos' pn : Pos}
def sListG (n : Nat) (g : List D → Option (List D)) (s : SA) : SE := fun ρ => (s ρ).bind fun ds ρ' => if ds.length = n then (match g ds with
  | some out => .ok (.lst out) ρ'
  | none => .stuck) else .stuck
@[simp] theorem ev_listG (n : Nat) (g : List D → Option (List D)) (s : SA) (ρ : Env) : sListG n g s ρ = (s ρ).bind fun ds ρ' => if ds.length = n then (match g ds with
  | some out => .ok (.lst out) ρ'
  | none => .stuck) else .stuck := rfl
theorem d_listG (hu : At X W) (C : CalG X.prog X.w X.K X.mg X.base x k (spG (GK X ex) n g)) (hr : Room (k + 3) X.A) (hg : Gl X x) (hgl : Gl X nm) (hml : X.mg nm = none) (hv : bootBuiltins nm = some (.type "list"))
    (ha : DA (GK X ex) X W (e :: es) sA) (hdb : (x == ("__debug__" : Str)) = false := by decide) (he : starEach (e :: es) X.env = (false, eval e X.env) :: starEach es X.env := by rfl) (hpl : (backTo pos' (starEach es X.env)).any (·.1) = false := by rfl)
    (hnm : nm ≠ "__name__" := by decide) (hdb2 : (nm == ("__debug__" : Str)) = false := by decide) (he2 : starEach [.Call (.Name x p) (e :: es) [] pos'] X.env = (false, eval (.Call (.Name x p) (e :: es) [] pos') X.env) :: starEach [] X.env := by rfl) :
    DF (GK X ex) X W (.Call (.Name nm pn) [.Call (.Name x p) (e :: es) [] pos'] [] pos) (sListG n g sA) :=
  let ⟨f, fd, ps, F, hm, hk, hb⟩ := C.there
  wkE (pe_listG (E := fun _ _ _ => False) (pgen_call F (hr.mono (by omega)) hg hm hk hb .nil ha hdb he hpl) (fun pins σ H s e s' I c => by
      obtain ⟨_, _, _, _, _, _, _, _, _, _, _, _, z⟩ := c
      exact z.elim) (fun _ _ _ z => z.elim) hr hgl hml hv hnm hdb2 he2) fun σ H Q ⟨ρ, F0, Rv, io, rel, q⟩ => by
    refine ⟨ρ, F0, Rv, io, rel, ?_⟩
    unfold sListG at q
    cases e1 : sA ρ with
    | stuck => rw [e1] at q; exact q.elim
    | exc x ρ' => rw [e1] at q; exact q
    | ok ds ρ' =>
      rw [e1, R.bind_ok] at q
      intro vs H1 F1 le rel1 r
      by_cases hn : ds.length = n
      · rw [if_pos hn] at q
        rw [List.append_nil]
        refine ⟨ds, F1, restOf F1 H1 none, r.length.trans hn, restOf_apart rel1 none, r, ?_⟩
        cases e2 : g ds with
        | none => rw [e2] at q; exact q.elim
        | some out =>
          rw [e2] at q
          intro ys H2 F2 le2 ap ro pp hp
          have rel2 := rel1.behind le2 ap
          exact q pp _ F2 (le.trans le2) (rel2.newH hp _) ⟨rel2.fH.noneOf hp, rel2.rH.noneOf hp, _, upd_same, _, rfl, ro⟩ (rel2.loose hp)
      · rw [if_neg hn] at q; exact q.elim
end
end Dt

set_option Elab.async false
set_option linter.all false
set_option maxRecDepth 100000
set_option maxHeartbeats 4000000
/-! A lambda of one parameter with no captured name: its call. -/
namespace Dt
open PySem PySem.Spec PyProof.Rows L2
section
theorem lam1_run {CX : CXT} {P : Program} {w : World} {K : PySem.W.Frag} {mg : Str → Option Value} {base : Heap} {k : Nat} {f c : Addr} {a q : Str} {params : Arguments} {body : Expr} {scope : Scope} {pm ctv : Value} {A : Around} {outer : List PySem.Env} {s : Shared} {H : Hp} {u : Value} {v : V} {Q : VK} {E : XK} {tb : TE}
    (S : FnScope [a] [a] scope) (hr : Room (k + 1) A) (e0 : Env0 P w K mg base A outer s H)
    (hf : s.heap.get? f = some (PySem.W.kla_obj "<lambda>" q params body scope [] pm c ctv)) (hc : ∃ (oc : Obj) (vs : Array Value) (t : Tok), s.heap.get? c = some oc ∧ oc.data = .fields vs ∧ vs[1]? = some (.str q t))
    (hbind : bindArgs (PySem.W.kla_fn "<lambda>" q params body scope [] pm (.ref c) ctv) ⟨[u], []⟩ = pure [(a, u)]) (rv : RelV v u)
    (hbody : Room k (A.deeper (envOfC q scope s.heap.objs.size f (.ref c))) → PE (cxOf CX P w K mg base [a] q scope f (.ref c) A outer s H E) body tb) (ht : tb (L2.start [a] [v]) H Q) :
    codeAny (model P w) A (.call (.ref f) ⟨[u], []⟩) (CR CX outer P w H s Q E) s := by
  have lim : s.heap.NoLimit := e0.mod.nolimit.keeps fun b o e => (e0.bs b o e).1
  have hkind : ∀ y ∈ [a].zip [u], scope.names.lookup y.1 = some .local ∨ (scope.names.lookup y.1 = some .cell ∧ ((cellsFrom (s.heap.objs.size + 1) scope.names []).lookup y.1).isSome = true) := fun ⟨n, v⟩ hy => by
    rcases S.par n (List.of_mem_zip hy).1 with q | q
    · exact .inl q
    · exact .inr ⟨q, PySem.W.cellsFrom_some _ _ _ (.inl q)⟩
  obtain ⟨oc, vs, t, hoc, hdc, hvc⟩ := hc
  refine PySem.W.kla_callFunE hr.depth hf rfl S.co S.gen rfl ⟨c, oc, vs, t, rfl, hoc, hdc, hvc⟩ (hbind ▸ wpAny_pure ?_)
  refine wpAny_newFunctionEnv_cells S.kind hkind fun env he s1 x => ?_
  subst he
  refine ⟨lim.keeps x.toInCall.keep, ?_⟩
  have I : Inv (cxOf CX P w K mg base [a] q scope f (.ref c) A outer s H E) [] (L2.start [a] [v]) H s1 := inv_start (us := [u]) (vs := [v]) S hr.hd e0 rfl (.cons rv .nil) x
  exact PySem.W.kla_codeExpr (wpAny_mono ((hbody (hr.deeper _)).run [] s1 (L2.start [a] [v]) H Q I ht) (fun v' s' ⟨w', H', J, rv', q'⟩ => ⟨w', H', J.os, J.bare, J.base, J.hok, rv', q'⟩) fun e s' hq => hq)
end
end Dt

set_option Elab.async false
set_option linter.all false
set_option maxRecDepth 100000
set_option maxHeartbeats 4000000
/-! list.sort and sorted by a key that the law calls: stable. -/
namespace Dt
open PySem PySem.Spec PyProof.Rows L2 SrtO
section
variable {X : Cx} {pins : List (Addr × Obj)} {σ : L2.St} {H : Hp} {s : Shared}
/-- a young object that nobody tracks is written -/
theorem inv_repin {S : Addr} {o o' : Obj} {hh : Heap} {t : Nat} (I : Inv X ((S, o) :: pins) σ H s) (hA : L2.Apart X S) (hpn : ∀ p ∈ X.pn, p.1 ≠ S) (hip : ∀ p ∈ pins, p.1 ≠ S)
    (keep : ∀ b ob, b ≠ S → s.heap.get? b = some ob → hh.get? b = some ob) (e : hh.get? S = some o') (hd : ∀ v, o'.data ≠ .cell v) : Inv X ((S, o') :: pins) σ H { s with heap := hh, toks := t } := by
  obtain ⟨eS, hS0, hSL, hSf, _⟩ := I.pin (S, o) (List.mem_append_right _ List.mem_cons_self)
  have I0 : Inv X pins σ H s := I.pins_of fun p hp => I.pin p (List.mem_append_right _ (List.mem_cons_of_mem _ hp))
  have nt : ∀ b u, H b = some u → b ≠ S := fun b u q hb => by rw [hb] at q; rw [hS0] at q; cases q
  have nc : ∀ b, b ∉ [S] → b ≠ S := fun b hb e => hb (by rw [e]; exact List.mem_singleton.mpr rfl)
  have J : Inv X pins σ H { s with heap := hh, toks := t } := by
    refine I0.step (g' := s.gens) (t' := t) (d' := s.drawn) (ch := [S]) (fun b hb => ?_)
      (fun b ob _ _ hc q _ => keep b ob (nc b hc) q) (fun b ob _ _ hc q _ => ⟨ob.slots, keep b ob (nc b hc) q⟩) (fun _ _ _ _ n => n) (fun b ob hc q => ⟨ob, keep b ob (nc b hc) q⟩)
      (fun _ _ q => q) (fun _ _ _ q => q) (fun b ps q => ⟨#[], by rw [q]; simp⟩) (fun m hm => ?_) (fun b u q => ?_) I0.bare
    · rw [List.mem_singleton.mp hb]
      refine ⟨.inr hA.1, hA.2.1, hA.2.2, fun p hp => ?_⟩
      rcases List.mem_append.mp hp with hp | hp
      · exact hpn p hp
      · exact hip p hp
    · obtain ⟨ob, es, ep, ho, r⟩ := hm
      exact ⟨ob, es, ep, keep _ ob (Ne.symm hSL) ho, r⟩
    · refine (I0.hok b u q).stay (fun c v hc y => keep c v ?_ y) (fun _ y => y) fun _ _ y => y
      rcases hc with y | y
      · rw [y]; exact nt b u q
      · exact nt c _ y
  exact J.pins_of fun p hp => by
    rcases List.mem_cons.mp hp with rfl | hp
    · exact ⟨e, hS0, hSL, hSf, hd⟩
    · exact J.pin p (List.mem_append_right _ hp)
/-- a young object, pinned -/
theorem inv_pin {S : Addr} {o : Obj} {h' : Heap} {t : Nat} (I : Inv X pins σ H s) (hb : s.heap.objs.size ≤ S) (k : ∀ b u, s.heap.get? b = some u → h'.get? b = some u) (e : h'.get? S = some o) (hd : ∀ v, o.data ≠ .cell v) :
    Inv X ((S, o) :: pins) σ H { s with heap := h', toks := t } ∧ L2.Apart X S ∧ (∀ p ∈ X.pn, p.1 ≠ S) ∧ ∀ p ∈ pins, p.1 ≠ S := by
  obtain ⟨f0, f1, f2, f3, f4, f5⟩ := I.fpOk hb (I.hok.fresh hb)
  have J := I.kept (t' := t) k
  refine ⟨J.pins_of fun p hp => ?_, ⟨Nat.le_trans I.sz hb, fun z => f1 z, f4⟩, fun p hp => f5 p (List.mem_append_left _ hp), fun p hp => f5 p (List.mem_append_right _ hp)⟩
  rcases List.mem_cons.mp hp with rfl | hp
  · exact ⟨e, f0, f1, f2, hd⟩
  · exact J.pin p (List.mem_append_right _ hp)
theorem srtd_two {α : Type} {lt : α → α → Bool} {l : List α} (h : l.length < 2) : Srtd lt l := by
  match l, h with
  | [], _ => exact List.Pairwise.nil
  | [v], _ => exact List.pairwise_singleton _ _
  | _ :: _ :: l, h => exact absurd h (by rw [List.length_cons, List.length_cons]; omega)
/-- the sort behind the keys: stable by them -/
theorem sk_end {a kS : Addr} {e e1 : Nat} {keys : Array Value} {vs : List Value} {kz : List Int} {A : Around} {R : PySem.Fin → Shared → Prop} {E : Value → Shared → Prop}
    (I : Inv X ((kS, seqObj "list" keys e) :: (a, seqObj "list" #[] e1) :: pins) σ H s) (aK : L2.Apart X kS) (aA : L2.Apart X a) (pK : ∀ p ∈ X.pn, p.1 ≠ kS) (pA : ∀ p ∈ X.pn, p.1 ≠ a) (iK : ∀ p ∈ pins, p.1 ≠ kS) (iA : ∀ p ∈ pins, p.1 ≠ a) (hka : kS ≠ a)
    (hk : IntsAre keys.toList kz) (hlen : kz.length = vs.length) (hz : vs.length ≤ 1000)
    (h : ∀ (out : List Keyed) (c : Nat) (hh : Heap) (t : Nat), Srtd (lt2 ltIv) out → Stb (lt2 ltIv) out (keys.zip vs.toArray).toList → Inv X ((a, seqObj "list" (out.map (·.2)).toArray c) :: pins) σ H { s with heap := hh, toks := t } → R (.done (.ret .none)) { s with heap := hh, toks := t }) :
    wpAny (model X.prog X.w) A (ksk_end a false vs.toArray e1 (.ref kS) keys) R E s := by
  have ek : s.heap.get? kS = some (seqObj "list" keys e) := (I.pin (kS, seqObj "list" keys e) (List.mem_append_right _ (.head _))).1
  have ea : s.heap.get? a = some (seqObj "list" #[] e1) := (I.pin (a, seqObj "list" #[] e1) (List.mem_append_right _ (.tail _ (.head _)))).1
  have hsz : keys.size = vs.length := by
    have h1 := hk.length
    rw [Array.length_toList] at h1
    omega
  have hzs : (keys.zip vs.toArray).size = vs.length := by rw [Array.size_zip, hsz, List.size_toArray, Nat.min_self]
  have tail : ∀ st : SortSt, Srtd (lt2 ltIv) (arrOf st).toList → Stb (lt2 ltIv) (arrOf st).toList (keys.zip vs.toArray).toList → failedOf st = none → wpAny (model X.prog X.w) A (ksk_tail a false e1 (.ref kS) st) R E s := fun st h1 h2 hfl => by
    have hl : (arrOf st).size = vs.length := by
      have := h2.perm.length_eq
      rw [Array.length_toList, Array.length_toList, hzs] at this
      exact this
    have hout : ((arrOf st).map (·.2)).size = vs.length := by rw [Array.size_map]; exact hl
    have s1 := Heap.SameBut.update s.heap kS (Obj.mapSeq fun _ => (#[] : Array Value))
    have na1 : (s.heap.update kS (Obj.mapSeq fun _ => (#[] : Array Value))).get? a = some (seqObj "list" #[] e1) := (s1.2 a hka.symm).trans ea
    have s2 := Heap.SameBut.update (s.heap.update kS (Obj.mapSeq fun _ => (#[] : Array Value))) a (Obj.mapSeq fun _ => (arrOf st).map (·.2))
    obtain ⟨c2, hc2⟩ : ∃ c2, ((s.heap.update kS (Obj.mapSeq fun _ => (#[] : Array Value))).update a (Obj.mapSeq fun _ => (arrOf st).map (·.2))).get? a = some (seqObj "list" ((arrOf st).map (·.2)) c2) :=
      ⟨_, get?_update_seq na1 fun _ => (arrOf st).map (·.2)⟩
    obtain ⟨e3, he3⟩ : ∃ e3, (s.heap.update kS (Obj.mapSeq fun _ => (#[] : Array Value))).get? kS = some (seqObj "list" #[] e3) := ⟨_, get?_update_seq ek fun _ => #[]⟩
    have I1 : Inv X ((kS, seqObj "list" #[] e3) :: (a, seqObj "list" #[] e1) :: pins) σ H { s with heap := s.heap.update kS (Obj.mapSeq fun _ => (#[] : Array Value)) } :=
      inv_repin (t := s.toks) I aK pK (fun p hp => (List.mem_cons.mp hp).elim (fun z => by rw [z]; exact hka.symm) (iK p)) (fun b ob hb q => (s1.2 b hb).trans q) he3 (fun v q => by cases q)
    have I2 : Inv X ((a, seqObj "list" #[] e1) :: pins) σ H { s with heap := s.heap.update kS (Obj.mapSeq fun _ => (#[] : Array Value)) } := I1.pins_of fun p hp => I1.pin p (List.mem_append_right _ (.tail _ hp))
    have I3 : Inv X ((a, seqObj "list" ((arrOf st).map (·.2)) c2) :: pins) σ H { s with heap := (s.heap.update kS (Obj.mapSeq fun _ => (#[] : Array Value))).update a (Obj.mapSeq fun _ => (arrOf st).map (·.2)) } :=
      inv_repin (s := { s with heap := s.heap.update kS (Obj.mapSeq fun _ => (#[] : Array Value)) }) (t := s.toks) I2 aA pA iA (fun b ob hb q => (s2.2 b hb).trans q) hc2 (fun v q => by cases q)
    unfold ksk_tail
    try dsimp only
    refine wpAny_bind (listUpdate_at ek rfl ?_ (by rw [hsz, sizeLine_eq]; omega) (Nat.zero_le _))
    refine wpAny_bind (wpAny_letGo ?_)
    refine wpAny_bind (seqEpoch_at na1 rfl ?_)
    refine wpAny_bind (listUpdate_at na1 rfl ?_ (Nat.zero_le _) (Nat.le_trans (Nat.le_of_eq hout) (by rw [sizeLine_eq]; omega)))
    rw [hfl]
    simp only [bne_self_eq_false, Bool.false_eq_true, if_false]
    refine wpAny_pure (h (arrOf st).toList c2 _ s.toks h1 h2 ?_)
    have ea2 : ((arrOf st).toList.map (·.2)).toArray = (arrOf st).map (·.2) := by rw [← Array.toList_map, Array.toArray_toList]
    rw [ea2]
    exact I3
  unfold ksk_end
  try dsimp only
  simp only [Bool.false_eq_true, if_false]
  by_cases h2 : vs.toArray.size < 2
  · rw [if_pos h2, if_pos h2]
    refine wpAny_bind (wpAny_pure ?_)
    rw [StateT.run_pure]
    refine wpAny_bind (wpAny_pure ?_)
    try dsimp only
    refine tail (SortSt.mk' general' (keys.zip vs.toArray) #[] 7 none) ?_ (Stb.refl _) rfl
    show Srtd (lt2 ltIv) (keys.zip vs.toArray).toList
    exact srtd_two (by rw [Array.length_toList, hzs]; rw [List.size_toArray] at h2; exact h2)
  · rw [if_neg h2, if_neg h2]
    rw [List.size_toArray] at h2
    rw [ksk_kind hk (by rw [hsz]; omega)]
    refine wpAny_bind (wpAny_pure ?_)
    have hall : AllL (fun p : Keyed => p.1 ∈ keys.toList) (keys.zip vs.toArray).toList := fun p hm => by
      rw [ksk_zip] at hm
      exact (List.of_mem_zip hm).1
    refine wpAny_bind (wpAny_mono (wpS_sortO (st0 := SortSt.mk' oneType' (keys.zip vs.toArray) #[] 7 none)
      (Q := fun _ st' => Srtd (lt2 ltIv) (arrOf st').toList ∧ Stb (lt2 ltIv) (arrOf st').toList (keys.zip vs.toArray).toList ∧ failedOf st' = none) (swo2 swo_int) (int_cmp hk) rfl hall rfl rfl fun st' a1 a2 a3 => ⟨a1, a2, a3⟩) ?_ fun _ _ e => e)
    rintro ⟨⟨⟩, st'⟩ s' ⟨rfl, hp1, hp2, hf⟩
    try dsimp only
    exact tail st' hp1 hp2 hf
end
end Dt

set_option Elab.async false
set_option linter.all false
set_option maxRecDepth 100000
set_option maxHeartbeats 4000000
/-! sorted(l, key = f). -/
namespace Dt
open PySem PySem.Spec PyProof.Rows L2 SrtO
section
variable {X : Cx} {pins : List (Addr × Obj)} {σ : L2.St} {H : Hp} {s : Shared}
theorem sk_sort {a : Addr} {n : Nat} {vs : List Value} {ks : List Int} {f : Value} {A : Around} {R : PySem.Fin → Shared → Prop} {E : Value → Shared → Prop} (Pr : Hp → Prop)
    (I : Inv X ((a, seqObj "list" vs.toArray n) :: pins) σ H s) (P0 : Pr H) (aA : L2.Apart X a) (pA : ∀ p ∈ X.pn, p.1 ≠ a) (iA : ∀ p ∈ pins, p.1 ≠ a) (hlen : ks.length = vs.length) (hz : vs.length ≤ 1000)
    (turn : ∀ (i : Nat) (u : Value) (k : Int), vs[i]? = some u → ks[i]? = some k → ∀ (ip : List (Addr × Obj)) (H' : Hp) (s' : Shared), Inv X (ip ++ pins) σ H' s' → Pr H' →
      wpAny (model X.prog X.w) A (call f [u]) (fun r s'' => (∃ t, r = .int k t) ∧ ∃ H'', Inv X (ip ++ pins) σ H'' s'' ∧ Pr H'') (fun _ _ => False) s')
    (h : ∀ (keys : Array Value) (out : List Keyed) (c : Nat) (H' : Hp) (s' : Shared), IntsAre keys.toList ks → Srtd (lt2 ltIv) out → Stb (lt2 ltIv) out (keys.zip vs.toArray).toList → Inv X ((a, seqObj "list" (out.map (·.2)).toArray c) :: pins) σ H' s' → Pr H' → R (.done (.ret .none)) s') :
    wpAny (model X.prog X.w) A (ksk_tree a f false) R E s := by
  have ea : s.heap.get? a = some (seqObj "list" vs.toArray n) := (I.pin (a, seqObj "list" vs.toArray n) (List.mem_append_right _ (.head _))).1
  have la : a < s.heap.objs.size := Heap.lt_size ea
  have s1 := Heap.SameBut.update s.heap a (Obj.mapSeq fun _ => (#[] : Array Value))
  obtain ⟨e1, ho1⟩ : ∃ e1, (s.heap.update a (Obj.mapSeq fun _ => (#[] : Array Value))).get? a = some (seqObj "list" #[] e1) := ⟨_, get?_update_seq ea fun _ => #[]⟩
  have I1 : Inv X ((a, seqObj "list" #[] e1) :: pins) σ H { s with heap := s.heap.update a (Obj.mapSeq fun _ => (#[] : Array Value)) } := inv_repin (t := s.toks) I aA pA iA (fun b ob hb q => (s1.2 b hb).trans q) ho1 (fun v q => by cases q)
  unfold ksk_tree
  refine wpAny_bind (listItems_at ea rfl ?_)
  refine wpAny_bind (listUpdate_at ea rfl ?_ (by rw [List.size_toArray, sizeLine_eq]; omega) (Nat.zero_le _))
  refine wpAny_bind (seqEpoch_at ho1 rfl ?_)
  refine wpAny_bind (wpAny_newTuple ?_ (by show vs.length ≤ _; rw [sizeLine_eq]; omega))
  refine wpAny_bind (wpAny_newList ?_ (Nat.zero_le _))
  refine wpAny_holding ?_
  generalize hkS : ((s.heap.update a (Obj.mapSeq fun _ => (#[] : Array Value))).push (seqObj "tuple" vs.toArray 0)).objs.size = kS
  have hks : kS = s.heap.objs.size + 1 := by rw [← hkS, size_push', Heap.size_update]
  have hka : kS ≠ a := by rw [hks]; exact Nat.ne_of_gt (Nat.lt_succ_of_lt la)
  have eK : (((s.heap.update a (Obj.mapSeq fun _ => (#[] : Array Value))).push (seqObj "tuple" vs.toArray 0)).push (seqObj "list" #[] 0)).get? kS = some (seqObj "list" #[] 0) := by rw [← hkS]; exact Heap.get?_push_size _ rfl
  obtain ⟨I2, aK, pK, iK⟩ := inv_pin (t := s.toks) (h' := ((s.heap.update a (Obj.mapSeq fun _ => (#[] : Array Value))).push (seqObj "tuple" vs.toArray 0)).push (seqObj "list" #[] 0)) I1
    (show (s.heap.update a (Obj.mapSeq fun _ => (#[] : Array Value))).objs.size ≤ kS by rw [Heap.size_update, hks]; exact Nat.le_succ _) (fun b u q => Heap.get?_push_of_some _ (Heap.get?_push_of_some _ q)) eK (fun v q => by cases q)
  have iK : ∀ p ∈ pins, p.1 ≠ kS := fun p hp => iK p (.tail _ hp)
  unfold ksk_rest
  refine wpAny_bind (wpAny_rule ?_)
  first
    | rw [List.forIn_toArray]
    | (rw [← Array.forIn_toList]; simp only [List.toList_toArray])
    | rw [← Array.forIn_toList]
  refine wpAny_bind (ksk_fold (fun i s' => ∃ H' kA e, Inv X ((kS, seqObj "list" kA e) :: (a, seqObj "list" #[] e1) :: pins) σ H' s' ∧ Pr H' ∧ IntsAre kA.toList (ks.take i)) vs 0 _
    ⟨H, #[], 0, I2, P0, by simpa using IntsAre.nil⟩ ?step ?done)
  case step =>
    rintro j x s' hx ⟨H', kA, e, I', P', hk⟩
    simp only [Nat.zero_add] at hk ⊢
    have hj : j < vs.length := (List.getElem?_eq_some_iff.mp hx).1
    obtain ⟨k, hkj⟩ : ∃ k, ks[j]? = some k := ⟨_, List.getElem?_eq_getElem (by omega)⟩
    have hzA : kA.size ≤ vs.length := by
      have h1 := hk.length
      rw [Array.length_toList, List.length_take] at h1
      omega
    refine wpAny_bind (wpAny_attempt (wpAny_mono (turn j x k hx hkj [(kS, seqObj "list" kA e), (a, seqObj "list" #[] e1)] H' s' I' P') (fun v s'' he => ?_) fun _ _ hF => hF.elim))
    obtain ⟨⟨t2, rfl⟩, H2, I3, P3⟩ := he
    try dsimp only
    have I3 : Inv X ((kS, seqObj "list" kA e) :: (a, seqObj "list" #[] e1) :: pins) σ H2 s'' := I3
    have ek : s''.heap.get? kS = some (seqObj "list" kA e) := (I3.pin (kS, seqObj "list" kA e) (List.mem_append_right _ (.head _))).1
    have s2 := Heap.SameBut.update s''.heap kS (Obj.mapSeq (·.push (.int k t2)))
    obtain ⟨c2, hc2⟩ : ∃ c2, (s''.heap.update kS (Obj.mapSeq (·.push (.int k t2)))).get? kS = some (seqObj "list" (kA.push (.int k t2)) c2) := ⟨_, get?_update_seq ek (·.push (.int k t2))⟩
    have ek2 : ks.take (j + 1) = ks.take j ++ [k] := by rw [List.take_add_one, hkj]; simp
    have ea2 : (kA.push (Value.int k t2)).toList = kA.toList ++ [Value.int k t2] := by simp
    refine wpAny_bind (listUpdate_at ek rfl ?_ (by rw [sizeLine_eq]; omega) (Nat.le_trans (Nat.le_of_eq (Array.size_push ..)) (by rw [sizeLine_eq]; omega)))
    refine wpAny_pure ⟨rfl, H2, kA.push (.int k t2), c2, inv_repin (t := s''.toks) I3 aK pK (fun p hp => (List.mem_cons.mp hp).elim (fun z => by rw [z]; exact hka.symm) (iK p)) (fun b ob hb q => (s2.2 b hb).trans q) hc2 (fun v q => by cases q), P3, by rw [ea2, ek2]; exact ksk_snoc hk⟩
  case done =>
    rintro s' ⟨H', kA, e, I', P', hk⟩
    have hk' : IntsAre kA.toList ks := by
      have e3 : ks.take (0 + vs.length) = ks := List.take_of_length_le (by omega)
      rw [e3] at hk
      exact hk
    have ek : s'.heap.get? kS = some (seqObj "list" kA e) := (I'.pin (kS, seqObj "list" kA e) (List.mem_append_right _ (.head _))).1
    try dsimp only
    refine wpAny_bind (listItems_at ek rfl ?_)
    exact sk_end I' aK aA pK pA iK iA hka hk' hlen hz fun out c hh t h1 h2 I4 => h kA out c H' _ hk' h1 h2 I4 P'
/-- sorted(l, key = f) of a list that lies at l -/
theorem sk_sorted {l q : Addr} {vs : List Value} {ks : List Int} {A : Around} {Q : Value → Shared → Prop} {E : Value → Shared → Prop} (Pr : Hp → Prop)
    (I : Inv X pins σ H s) (P0 : Pr H) (hl : s.heap.IsList l vs.toArray) (hlen : ks.length = vs.length) (hz : vs.length ≤ 1000)
    (turn : ∀ (i : Nat) (u : Value) (k : Int), vs[i]? = some u → ks[i]? = some k → ∀ (ip : List (Addr × Obj)) (H' : Hp) (s' : Shared), Inv X (ip ++ pins) σ H' s' → Pr H' →
      wpAny (model X.prog X.w) A.in1.in1 (call (.ref q) [u]) (fun r s'' => (∃ t, r = .int k t) ∧ ∃ H'', Inv X (ip ++ pins) σ H'' s'' ∧ Pr H'') (fun _ _ => False) s')
    (h : ∀ (D : Addr) (keys : Array Value) (out : List Keyed) (c : Nat) (H' : Hp) (s' : Shared), IntsAre keys.toList ks → Srtd (lt2 ltIv) out → Stb (lt2 ltIv) out (keys.zip vs.toArray).toList → s.heap.objs.size ≤ D → Inv X ((D, seqObj "list" (out.map (·.2)).toArray c) :: pins) σ H' s' → Pr H' → Q (.ref D) s') :
    wpAny (model X.prog X.w) A (call (.builtin "sorted") [.ref l] [(Str.ofString "key", .ref q)]) Q E s := by
  refine call_function_entry_kw kind_sorted plain_sorted entry_sorted (ksk_s1 _ _) ?_
  unfold Builtin.«sorted»
  refine wpAny_bind (m := checkCount "sorted" 1 1 _) (wpAny_pure ?_)
  refine wpAny_bind (collect_list hl ?_ (by rw [sizeLine_eq]; omega))
  refine wpAny_bind (wpAny_newList ?_ (by rw [sizeLine_eq]; omega))
  have hsz : ((s.heap.push (seqObj "list" #[] 0)).update s.heap.objs.size (Obj.mapSeq (· ++ vs.toArray))).objs.size = s.heap.objs.size + 1 := by
    rw [Heap.size_update, size_push']
  have hoL : (((s.heap.push (seqObj "list" #[] 0)).update s.heap.objs.size (Obj.mapSeq (· ++ vs.toArray))).push (seqObj "list" vs.toArray 0)).get? (s.heap.objs.size + 1) = some (seqObj "list" vs.toArray 0) := by
    rw [← hsz]; exact Heap.get?_push_size _ rfl
  have keep : ∀ b o, s.heap.get? b = some o → (((s.heap.push (seqObj "list" #[] 0)).update s.heap.objs.size (Obj.mapSeq (· ++ vs.toArray))).push (seqObj "list" vs.toArray 0)).get? b = some o := fun b o q => by
    have hlt : b < s.heap.objs.size := Heap.lt_size q
    rw [Heap.get?_push_ne _ _ _ (by rw [hsz]; exact Nat.ne_of_lt (Nat.lt_succ_of_lt hlt)), Heap.get?_update_ne _ _ _ _ (Nat.ne_of_lt hlt), Heap.get?_push_ne _ _ _ (Nat.ne_of_lt hlt)]
    exact q
  show wpAny _ _ _ _ _ { s with heap := ((s.heap.push (seqObj "list" #[] 0)).update s.heap.objs.size (Obj.mapSeq (· ++ vs.toArray))).push (seqObj "list" vs.toArray 0) }
  rw [hsz]
  obtain ⟨I2, aA, pA, iA⟩ := inv_pin (t := s.toks) I (show s.heap.objs.size ≤ s.heap.objs.size + 1 from Nat.le_succ _) keep hoL (fun v q => by cases q)
  refine wpAny_bind (wpAny_holding (wpAny_call_entry_kw slot_list_sort ⟨_, hoL, rfl⟩ entry_list_sort ?body (ksk_l1 _ _)))
  case body =>
    show wpAny (model X.prog X.w) A.in1.in1 (Builtin.«list.sort» ⟨[.ref (s.heap.objs.size + 1)], [(Str.ofString "key", .ref q)]⟩) _ _ _
    rw [ksk_t1]
    refine sk_sort (s := { s with heap := ((s.heap.push (seqObj "list" #[] 0)).update s.heap.objs.size (Obj.mapSeq (· ++ vs.toArray))).push (seqObj "list" vs.toArray 0) }) Pr I2 P0 aA pA iA hlen hz turn fun keys out c H' s' a1 a2 a3 I4 P4 => ⟨_, rfl, ?_⟩
    exact wpAny_pure ⟨_, rfl, h _ keys out c H' s' a1 a2 a3 (Nat.le_succ _) I4 P4⟩
end
end Dt

set_option Elab.async false
set_option linter.all false
set_option maxRecDepth 100000
set_option maxHeartbeats 4000000
/-! A stable sort of pairs, and sorted(l, key = lambda) as a function of data. -/
namespace Dt
open PySem PySem.Spec PyProof.Rows L2 SrtO
section
variable {α β : Type} {lt : α → α → Bool}
def insL (lt : α → α → Bool) (p : α) : List α → List α
  | [] => [p]
  | q :: r => if lt q p = true then q :: insL lt p r else p :: q :: r
def isort (lt : α → α → Bool) (l : List α) : List α := l.foldr (insL lt) []
theorem insL_stb (O : Swo lt) (p : α) : ∀ l : List α, Stb lt (insL lt p l) (p :: l)
  | [] => Stb.refl _
  | q :: r => by
    unfold insL
    by_cases h : lt q p = true
    · rw [if_pos h]
      have s1 : Stb lt (q :: insL lt p r) (q :: p :: r) := Stb.app (a := [q]) (b := [q]) (Stb.refl _) (insL_stb O p r)
      have s2 : Stb lt ([q] ++ [p]) ([p] ++ [q]) := Stb.swap O (A := [q]) (B := [p]) fun a ha b hb => by rw [List.mem_singleton.mp ha, List.mem_singleton.mp hb]; exact h
      exact s1.trans (Stb.app (c := r) (d := r) s2 (Stb.refl _))
    · rw [if_neg h]; exact Stb.refl _
theorem insL_srtd (O : Swo lt) (p : α) : ∀ {l : List α}, Srtd lt l → Srtd lt (insL lt p l)
  | [], _ => srtd_one p
  | q :: r, h => by
    obtain ⟨h1, h2⟩ := List.pairwise_cons.mp h
    unfold insL
    by_cases e : lt q p = true
    · rw [if_pos e]
      refine List.pairwise_cons.mpr ⟨fun y hy => ?_, insL_srtd O p h2⟩
      rcases List.mem_cons.mp ((insL_stb O p r).perm.mem_iff.mp hy) with rfl | hy
      · exact O.asym q y e
      · exact h1 y hy
    · rw [if_neg e]
      have e : lt q p = false := by cases z : lt q p with
        | true => exact (e z).elim
        | false => rfl
      refine List.pairwise_cons.mpr ⟨fun y hy => ?_, h⟩
      rcases List.mem_cons.mp hy with rfl | hy
      · exact e
      · exact O.tr p q y e (h1 y hy)
theorem isort_ok (O : Swo lt) : ∀ l : List α, Srtd lt (isort lt l) ∧ Stb lt (isort lt l) l
  | [] => ⟨List.Pairwise.nil, Stb.refl _⟩
  | p :: l => by
    obtain ⟨h1, h2⟩ := isort_ok O l
    exact ⟨insL_srtd O p h1, (insL_stb O p _).trans (Stb.app (a := [p]) (b := [p]) (Stb.refl _) h2)⟩
theorem isort_uniq (O : Swo lt) {l m : List α} (h1 : Srtd lt l) (h2 : Stb lt l m) : l = isort lt m := by
  obtain ⟨a, b⟩ := isort_ok O m
  exact stb_uniq O h1 a (h2.trans ⟨b.perm.symm, fun x => (b.cls x).symm⟩)
theorem insL_map {lt' : β → β → Bool} {f : α → β} (h : ∀ x y, lt' (f x) (f y) = lt x y) (p : α) : ∀ l : List α, insL lt' (f p) (l.map f) = (insL lt p l).map f
  | [] => rfl
  | q :: r => by
    rw [List.map_cons, insL, insL, h]
    by_cases e : lt q p = true
    · rw [if_pos e, if_pos e, List.map_cons, insL_map h p r]
    · rw [if_neg e, if_neg e]; rfl
theorem isort_map {lt' : β → β → Bool} {f : α → β} (h : ∀ x y, lt' (f x) (f y) = lt x y) : ∀ l : List α, isort lt' (l.map f) = (isort lt l).map f
  | [] => rfl
  | p :: l => by
    show insL lt' (f p) (isort lt' (l.map f)) = (insL lt p (isort lt l)).map f
    rw [isort_map h l, insL_map h]
theorem insL_mem {p q : α} : ∀ {l : List α}, q ∈ insL lt p l → q = p ∨ q ∈ l
  | [], h => .inl (List.mem_singleton.mp h)
  | x :: r, h => by
    unfold insL at h
    split at h
    · rcases List.mem_cons.mp h with rfl | h
      · exact .inr (.head _)
      · exact (insL_mem h).imp id (.tail _)
    · rcases List.mem_cons.mp h with rfl | h
      · exact .inl rfl
      · exact .inr h
theorem isort_mem {q : α} : ∀ {l : List α}, q ∈ isort lt l → q ∈ l
  | [], h => nomatch h
  | p :: l, h => by
    rcases insL_mem (show q ∈ insL lt p (isort lt l) from h) with rfl | h
    · exact .head _
    · exact .tail _ (isort_mem h)
theorem insL_congr {lt' : α → α → Bool} {p : α} : ∀ {l : List α}, (∀ q ∈ l, lt q p = lt' q p) → insL lt p l = insL lt' p l
  | [], _ => rfl
  | q :: r, h => by
    unfold insL
    rw [h q (.head _), insL_congr fun x hx => h x (.tail _ hx)]
theorem isort_congr {lt' : α → α → Bool} : ∀ {l : List α}, (∀ x ∈ l, ∀ y ∈ l, lt x y = lt' x y) → isort lt l = isort lt' l
  | [], _ => rfl
  | p :: l, h => by
    show insL lt p (isort lt l) = insL lt' p (isort lt' l)
    rw [isort_congr fun x hx y hy => h x (.tail _ hx) y (.tail _ hy)]
    exact insL_congr fun q hq => h q (.tail _ (isort_mem hq)) p (.head _)
end
/-- pairs of keys and data, by the keys -/
def ltK (p q : Int × D) : Bool := decide (p.1 < q.1)
def sortK (ks : List Int) (ds : List D) : List D := (isort ltK (ks.zip ds)).map (·.2)
/-- what stands side by side: a key's value, an item's value, its abstract value, its datum, the key -/
structure Rec where
  kv : Value
  iv : Value
  v : V
  d : D
  k : Int
structure RecOk (K : PySem.W.Frag) (F : Hp) (r : Rec) : Prop where
  key : ∃ t, r.kv = .int r.k t
  val : RelV r.v r.iv
  rp : Rp K F r.v r.d
theorem recs {K : PySem.W.Frag} {F : Hp} : ∀ {keys vs : List Value} {xs : List V} {ds : List D} {ks : List Int}, IntsAre keys ks → Vals xs vs → Rps K F xs ds → ks.length = vs.length →
    ∃ L : List Rec, keys = L.map (·.kv) ∧ vs = L.map (·.iv) ∧ xs = L.map (·.v) ∧ ds = L.map (·.d) ∧ ks = L.map (·.k) ∧ ∀ r ∈ L, RecOk K F r
  | _, _, _, _, _, .nil, .nil, .nil, _ => ⟨[], rfl, rfl, rfl, rfl, rfl, fun _ h => nomatch h⟩
  | _, _, _, _, _, .cons k t hk, .cons (a := x) (b := u) rv hv, .cons (d := d) rp hr, hl => by
    obtain ⟨L, e1, e2, e3, e4, e5, h⟩ := recs hk hv hr (by simpa using hl)
    subst e1 e2 e3 e4 e5
    exact ⟨⟨.int k t, u, x, d, k⟩ :: L, rfl, rfl, rfl, rfl, rfl, fun r hr => (List.mem_cons.mp hr).elim (fun e => e ▸ ⟨⟨t, rfl⟩, rv, rp⟩) (h r)⟩
  | _, _, _, _, _, .nil, .cons _ _, _, hl => by simp at hl
  | _, _, _, _, _, .cons _ _ _, .nil, _, hl => by simp at hl
/-- what the sort told is the stable sort of the data -/
theorem sorted_out {K : PySem.W.Frag} {F : Hp} {keys : Array Value} {vs : List Value} {xs : List V} {ds : List D} {ks : List Int} {out : List Keyed} (hk : IntsAre keys.toList ks) (hv : Vals xs vs) (hr : Rps K F xs ds) (hl : ks.length = vs.length)
    (h1 : Srtd (lt2 ltIv) out) (h2 : Stb (lt2 ltIv) out (keys.zip vs.toArray).toList) : ∃ ys : List V, Vals ys (out.map (·.2)) ∧ Rps K F ys (sortK ks ds) ∧ ys.length = xs.length := by
  obtain ⟨L, e1, e2, e3, e4, e5, h⟩ := recs hk hv hr hl
  rw [ksk_zip] at h2
  have ez : keys.toList.zip vs = L.map fun r => (r.kv, r.iv) := by rw [e1, e2, List.zip_map']
  rw [ez] at h2
  have eo := isort_uniq (swo2 swo_int) h1 h2
  rw [isort_map (lt := fun x y : Rec => ltIv x.kv y.kv) (f := fun r : Rec => (r.kv, r.iv)) (lt' := lt2 ltIv) (fun _ _ => rfl)] at eo
  rw [isort_congr (lt' := fun x y : Rec => decide (x.k < y.k)) (fun x hx y hy => by
    obtain ⟨t1, q1⟩ := (h x hx).key
    obtain ⟨t2, q2⟩ := (h y hy).key
    show ltIv x.kv y.kv = _
    rw [q1, q2]
    rfl)] at eo
  have es : sortK ks ds = (isort (fun x y : Rec => decide (x.k < y.k)) L).map (·.d) := by
    unfold sortK
    have ez2 : ks.zip ds = L.map fun r => (r.k, r.d) := by rw [e5, e4, List.zip_map']
    rw [ez2, isort_map (lt := fun x y : Rec => decide (x.k < y.k)) (f := fun r : Rec => (r.k, r.d)) (lt' := ltK) (fun _ _ => rfl), List.map_map]
    rfl
  have ho : out.map (·.2) = (isort (fun x y : Rec => decide (x.k < y.k)) L).map (·.iv) := by rw [eo, List.map_map]; rfl
  have hm : ∀ r ∈ isort (fun x y : Rec => decide (x.k < y.k)) L, RecOk K F r := fun r hr => h r (isort_mem hr)
  have hlen : out.length = vs.length := by
    have := h2.perm.length_eq
    rw [this, List.length_map, e2, List.length_map]
  rw [es, ho]
  have hlo : (isort (fun x y : Rec => decide (x.k < y.k)) L).length = vs.length := by
    have := congrArg List.length ho
    rw [List.length_map, List.length_map] at this
    omega
  have hxs : xs.length = vs.length := hv.length
  generalize isort (fun x y : Rec => decide (x.k < y.k)) L = M at *
  refine ⟨M.map (·.v), ?_, ?_, by rw [List.length_map]; omega⟩
  · clear eo es ho hlo
    induction M with
    | nil => exact .nil
    | cons r M ih => exact .cons (hm r (.head _)).val (ih fun q hq => hm q (.tail _ hq))
  · clear eo es ho hlo
    induction M with
    | nil => exact .nil
    | cons r M ih => exact .cons (hm r (.head _)).rp (ih fun q hq => hm q (.tail _ hq))
/-- a pinned list is tracked -/
theorem inv_adopt {X : Cx} {pins : List (Addr × Obj)} {σ : L2.St} {H : Hp} {s : Shared} {S : Addr} {acc : Array Value} {c : Nat} {ys : List V} (I : Inv X ((S, seqObj "list" acc c) :: pins) σ H s) (hA : L2.Apart X S) (hne : ∀ p ∈ X.pn ++ pins, p.1 ≠ S) (r : Vals ys acc.toList) (hl : ys.length ≤ sizeLine) : Inv X pins σ (upd H S (.lst ys)) s := by
  obtain ⟨eS, hS0, hSL, hSf, _⟩ := I.pin (S, seqObj "list" acc c) (List.mem_append_right _ List.mem_cons_self)
  have I0 : Inv X pins σ H s := I.pins_of fun p hp => I.pin p (List.mem_append_right _ (List.mem_cons_of_mem _ hp))
  have nt : ∀ {b u}, H b = some u → b ≠ S := fun {b u} q hb => by rw [hb, hS0] at q; cases q
  have pS : ∀ p ∈ X.pn ++ pins, p.1 ≠ S := fun p hp => hne p hp
  refine I0.step (H' := upd H S (.lst ys)) (h' := s.heap) (g' := s.gens) (t' := s.toks) (d' := s.drawn) (ch := [S]) (fun b hb => ?_) (fun b o _ _ _ q _ => q) (fun b o _ _ _ q _ => ⟨o.slots, q⟩)
    (fun b o hb _ n => by rw [upd_ne (fun z => hb (by rw [z]; exact List.mem_singleton.mpr rfl))]; exact n) (fun b o _ q => ⟨o, q⟩)
    (fun b xs q => by rw [upd_ne (nt q)]; exact q) (fun b o u q => by rw [upd_ne (nt q)]; exact q) (fun b ps q => ⟨#[], by rw [upd_ne (nt q), q]; simp⟩) (fun m hm => hm) (fun b u q => ?_) I0.bare
  · rw [List.mem_singleton.mp hb]
    exact ⟨.inr hA.1, hA.2.1, hA.2.2, pS⟩
  · by_cases hb : b = S
    · subst hb
      rw [upd_same] at q
      cases q
      exact ⟨hl, acc.toList, c, r, by rw [eS]⟩
    · rw [upd_ne hb] at q
      exact (I0.hok b u q).stay (fun _ _ _ z => z) (fun d z => by rw [upd_ne (nt z)]; exact z) fun d xs z => by rw [upd_ne (nt z)]; exact z
section
variable {X : Cx} {W : WX}
/-- the key of a datum, as the lambda's body tells it -/
def keyI (sb : SE) (d : D) : Option Int := match sb [.fro d] with
  | .ok (.int k) _ => some k
  | _ => none
def keysI (sb : SE) : List D → Option (List Int)
  | [] => some []
  | d :: ds => (keyI sb d).bind fun k => (keysI sb ds).map (k :: ·)
def sSortK (se sb : SE) : SE := fun ρ => (se ρ).bind fun d ρ' => match d with
  | .lst ds => if ds.length ≤ 1000 then (match keysI sb ds with
    | some ks => .ok (.lst (sortK ks ds)) ρ'
    | none => .stuck) else .stuck
  | _ => .stuck
theorem keysI_at {sb : SE} : ∀ {ds : List D} {ks : List Int}, keysI sb ds = some ks → ks.length = ds.length ∧ ∀ (i : Nat) (d : D) (k : Int), ds[i]? = some d → ks[i]? = some k → keyI sb d = some k
  | [], ks, h => by cases h; exact ⟨rfl, fun i d k h => by simp at h⟩
  | d :: ds, ks, h => by
    unfold keysI at h
    cases e : keyI sb d with
    | none => rw [e] at h; cases h
    | some k =>
      rw [e, Option.bind_some] at h
      cases e2 : keysI sb ds with
      | none => rw [e2] at h; cases h
      | some ks' =>
        rw [e2] at h
        cases h
        obtain ⟨a, b⟩ := keysI_at e2
        refine ⟨by rw [List.length_cons, List.length_cons, a], fun i x y hx hy => ?_⟩
        cases i with
        | zero => simp at hx hy; rw [← hx, ← hy]; exact e
        | succ i => exact b i x y (by simpa using hx) (by simpa using hy)
theorem rps_at {K : PySem.W.Frag} {F : Hp} {i : Nat} {u : Value} : ∀ {xs : List V} {vs : List Value} {ds : List D} {j : Nat}, Vals xs vs → Rps K F xs ds → vs[j]? = some u → ∃ x d, RelV x u ∧ Rp K F x d ∧ ds[j]? = some d
  | _, _, _, 0, .cons a _, .cons b _, h => by simp at h; subst h; exact ⟨_, _, a, b, rfl⟩
  | _, _, _, j + 1, .cons _ a, .cons _ b, h => by
    obtain ⟨x, d, h1, h2, h3⟩ := rps_at (i := i) (j := j) a b (by simpa using h)
    exact ⟨x, d, h1, h2, by simpa using h3⟩
end
end Dt

set_option Elab.async false
set_option linter.all false
set_option maxRecDepth 100000
set_option maxHeartbeats 4000000
/-! sorted(x, key = lambda a: ..) as a function of data. -/
namespace Dt
open PySem PySem.Spec PyProof.Rows L2 SrtO
section
variable {X : Cx} {W : WX}
theorem apart_all {F H F' H' : Hp} (hF : FLe F H) (le : FLe F F') (ap : Apart F' (restOf F H none) H') : ∀ {b : Addr} {o : HO}, H b = some o → H' b = some o := fun {b o} e => by
  cases h : F b with
  | some u =>
    have := hF b u h
    rw [e] at this
    cases this
    exact ap.f b _ (le b _ h)
  | none => exact ap.r b o (by unfold restOf; rw [if_pos ⟨h, fun z => nomatch z⟩]; exact e)
theorem d_sortK {c P : Addr} {k : Nat} {ea : String → Addr} {a x : Str} {params : Arguments} {body e : Expr} {scope : Scope} {se sb : SE} {p pos lpos kpos : Pos}
    (hu : At X W) (tb : LamX.TabB X.base X.mg c P) (hcd : X.env.code = .ref c) (hr : Room (k + 3) X.A) (hst : X.stack = X.env :: X.outer ∧ X.env.frame = some X.env.locals)
    (S : FnScope [a] [a] scope) (hcl : cloFrom X.env.cells scope.names [] = []) (hdef : defaultsOf params X.env = ([], []))
    (hbind : ∀ (q : Str) (pm cv ctv u : Value), bindArgs (PySem.W.kla_fn "<lambda>" q params body scope [] pm cv ctv) ⟨[u], []⟩ = pure [(a, u)])
    (hbody : ∀ (A : Around) (outer : List PySem.Env) (s : Shared) (H : Hp) (f c' : Addr), Room k (A.deeper (envOfC (X.env.qual ++ "<lambda>") scope s.heap.objs.size f (.ref c'))) → DE ⟨X.K, ⟨ea, []⟩⟩ (cxOf (L2.CX X.prog X.w) X.prog X.w X.K X.mg X.base [a] (X.env.qual ++ "<lambda>") scope f (.ref c') A outer s H (fun _ _ _ => False)) W0 body sb)
    (hgx : Gl X x) (hmx : X.mg x = none) (hv : bootBuiltins x = some (.builtin "sorted")) (ha : DA ⟨X.K, ⟨ea, [(P, X.env.qual ++ "<lambda>")]⟩⟩ X W [e] (sCons se sNil)) (hn : x ≠ "__name__" := by decide) (hdb : (x == ("__debug__" : Str)) = false := by decide)
    (hes : backTo pos (starEach [e] X.env) = (false, eval e X.env) :: backTo pos (starEach [] X.env) := by rfl) (hpl : (backTo pos (starEach [e] X.env)).any (·.1) = false := by rfl) :
    DF ⟨X.K, ⟨ea, [(P, X.env.qual ++ "<lambda>")]⟩⟩ X W (.Call (.Name x p) [e] [⟨some (Str.ofString "key"), .Lambda params body scope lpos, kpos⟩] pos) (sSortK se sb) := ⟨fun pins s σ H Q I ⟨ρ, F, Rv, io, rel, q⟩ => by
  have rel : Rel X.K io Rv ρ F σ H := rel
  refine wpAny_Call_Name_kw (ld_blt I hgx hmx hv ?_ hn hdb)
  unfold sSortK at q
  cases e0 : se ρ with
  | stuck => rw [e0] at q; exact q.elim
  | exc xn ρ' =>
    rw [e0] at q
    refine PyProof.Rows.callWith_kw (thn (ha.run pos pins s σ H (fun _ _ => False) I ⟨ρ, F, Rv, io, rel, ?_⟩) fun us s1 ⟨vs, H1, I1, r1, q1⟩ => q1.elim) hes hpl rfl rfl
    unfold sCons
    rw [e0]
    exact q
  | ok d ρ1 =>
    rw [e0, R.bind_ok] at q
    cases d with
    | lst ds =>
      simp only at q
      by_cases hz : ds.length ≤ 1000
      · rw [if_pos hz] at q
        cases ek : keysI sb ds with
        | none => rw [ek] at q; exact q.elim
        | some ks =>
          rw [ek] at q
          obtain ⟨kl, kat⟩ := keysI_at ek
          refine PyProof.Rows.callWith_kw (thn (ha.run pos pins s σ H (fun vs H1 => ∃ v F1, vs = [v] ∧ FLe F F1 ∧ Rel X.K io Rv ρ1 F1 σ H1 ∧ Rp X.K F1 v (.lst ds)) I ⟨ρ, F, Rv, io, rel, ?_⟩) fun us s1 ⟨vs, H1, I1, r1, q1⟩ => ?_) hes hpl rfl rfl
          · unfold sCons sNil
            rw [e0]
            exact fun vs H' F' le rel' rps => by
              cases rps with
              | cons rp rest => cases rest; exact ⟨_, F', rfl, le, rel', rp⟩
          · obtain ⟨v, F1, rfl, le1, rel1, rp⟩ := q1
            cases rp with
            | lst eF rps =>
              rename_i l xs
              obtain rfl := Vals.ref1 r1
              obtain ⟨hlen, its, n, rv, hl⟩ := I1.hok l _ (rel1.fH l _ eF)
              show wpAny _ _ (evalAll ((do let v ← eval (.Lambda params body scope lpos) X.env; standAt pos; pure v) :: (backToKw pos (keywordEach [] X.env)).map (·.2))) _ _ s1
              refine wpAny_evalAll_cons (wpAny_bind (LamX.lam_make2 (T := [(P, X.env.qual ++ "<lambda>")]) I1 tb hcd (.head _) (fun p hp _ => by rw [List.mem_singleton.mp hp]) rel1.tabsOf hdef (fun y hy z => (S.nofree y hy z).elim) fun f c' pm' ctv H2 s2 I2 eN T2 hf hfn hfr hco => wpAny_bind (wpAny_standAt (wpAny_pure (wpAny_evalAll_nil ?_)))))
              show wpAny _ _ (call (.builtin "sorted") [.ref l] [(Str.ofString "key", .ref f)]) _ _ s2
              rw [hcl] at hf
              obtain ⟨F2, le2, rel2⟩ := rel1.tabled eN T2
              have hfr2 : f ≠ X.env.locals ∧ f ∉ X.fs := by
                have e1 : frs X.stack = X.env.locals :: X.fs := by rw [hst.1]; show List.filterMap (·.frame) (X.env :: X.outer) = _; rw [List.filterMap_cons, hst.2]; rfl
                rw [e1] at hfr
                exact ⟨fun z => hfr (by rw [z]; exact .head _), fun z => hfr (.tail _ z)⟩
              have I2' : Inv X ((f, PySem.W.kla_obj "<lambda>" (X.env.qual ++ "<lambda>") params body scope [] pm' c' ctv) :: pins) σ H2 s2 := I2.pins_of fun p hp => by
                rcases List.mem_cons.mp hp with rfl | hp
                · exact ⟨hf, hfn, hfr2.1, hfr2.2, fun v z => by cases z⟩
                · exact I2.pin p (List.mem_append_right _ hp)
              have hl2 : H2 l = some (.lst xs) := rel2.fH l _ (le2 l _ eF)
              obtain ⟨hlen, its, n, rv, hl⟩ := I2.hok l _ hl2
              have lx : its.length = xs.length := rv.length.symm
              have ld : xs.length = ds.length := rps.length
              refine sk_sorted (A := X.A) (vs := its) (ks := ks) (fun H' => (∃ F', FLe F2 F' ∧ Rel X.K io Rv ρ1 F' σ H') ∧ H' c' = some (LamX.CodeO c' (X.env.qual ++ "<lambda>"))) I2' ⟨⟨F2, FLe.refl _, rel2⟩, hco⟩ ⟨_, hl, rfl, n, rfl⟩ (by omega) (by omega) (fun i u kk hu' hk' ip H' s' I' P' => ?_) fun D keys out cc H' s' a1 a2 a3 hD I4 P4 => ?_
              · obtain ⟨⟨F', le', rel'⟩, hco'⟩ := P'
                obtain ⟨xv, dd, rvx, rpx, hdd⟩ := rps_at (i := i) (j := i) rv rps hu'
                have hkey := kat i dd kk hdd hk'
                have ef : s'.heap.get? f = some (PySem.W.kla_obj "<lambda>" (X.env.qual ++ "<lambda>") params body scope [] pm' c' ctv) := (I'.pin (f, PySem.W.kla_obj "<lambda>" (X.env.qual ++ "<lambda>") params body scope [] pm' c' ctv) (List.mem_append_right _ (List.mem_append_right _ (.head _)))).1
                obtain ⟨⟨oc, cvs, ct, hoc, hdc, hvc⟩, _, _⟩ := I'.hok c' _ hco'
                have rpx' : Rp X.K F' xv dd := Rp.mono (le2.trans le') rpx
                refine wpAny_call (codeAny_mono (lam1_run (k := k) (CX := L2.CX X.prog X.w) (E := fun _ _ _ => False) (outer := X.stack) (tb := tE ⟨X.K, ⟨ea, []⟩⟩ W0 sb)
                  (Q := fun v H'' => v = .int kk ∧ ∃ F'', FLe F' F'' ∧ Apart F'' (restOf F' H' none) H'') S hr.in1.in1 I'.env0.in1.in1 ef ⟨oc, cvs, ct, hoc, hdc, hvc⟩ (hbind _ _ _ _ _) rvx (fun hr2 => hbody _ _ _ _ _ _ hr2) ?_) fun r s'' hq => ?_)
                · have hk : ∃ ρ'', sb [.fro dd] = .ok (.int kk) ρ'' := by
                    unfold keyI at hkey
                    cases e9 : sb [.fro dd] with
                    | stuck => rw [e9] at hkey; cases hkey
                    | exc x ρ => rw [e9] at hkey; cases hkey
                    | ok d ρ =>
                      rw [e9] at hkey
                      cases d with
                      | int k => cases hkey; exact ⟨ρ, rfl⟩
                      | _ => cases hkey
                  obtain ⟨ρ'', hk⟩ := hk
                  refine ⟨[.fro dd], F', restOf F' H' none, {}, rel_start (m := 0) (restOf_apart rel' none) (.cons rpx' .nil), ?_⟩
                  rw [hk]
                  exact fun v H'' F'' le'' rel'' rp'' => ⟨by cases rp''; rfl, F'', le'', ⟨rel''.fH, rel''.rH, rel''.dj, rel''.nt⟩⟩
                · match r, hq with
                  | .error e, hq =>
                    obtain ⟨_, _, _, _, _, _, _, _, _, _, _, _, z⟩ := hq
                    exact z.elim
                  | .ok (.ret u'), hq =>
                    obtain ⟨v', H'', I'', rv', rfl, F'', le'', ap⟩ := I'.after hq
                    exact ⟨rv', H'', I'', ⟨F'', le'.trans le'', rel'.behind le'' ap⟩, apart_all rel'.fH le'' ap hco'⟩
              · obtain ⟨⟨F4, le4, rel4⟩, _⟩ := P4
                obtain ⟨ys, vy, ry, ly⟩ := sorted_out a1 rv rps (by omega) a2 a3
                obtain ⟨f0, f1, f2, f3, f4, f5⟩ := I2'.fpOk hD (I2'.hok.fresh hD)
                have hDn : H' D = none := (I4.pin (D, seqObj "list" (out.map (·.2)).toArray cc) (List.mem_append_right _ (.head _))).2.1
                have I5 := inv_adopt (ys := ys) I4 ⟨Nat.le_trans I2'.sz hD, fun z => f1 z, f4⟩ (fun p hp => f5 p hp) (by simpa using vy) (by omega)
                have I6 : Inv X pins σ (upd H' D (.lst ys)) s' := I5.pins_of fun p hp => I5.pin p (List.mem_append_right _ (.tail _ hp))
                exact ⟨.ref D, _, I6, rfl, q D _ F4 (le1.trans (le2.trans le4)) (rel4.newH hDn _) ⟨rel4.fH.noneOf hDn, rel4.rH.noneOf hDn, _, upd_same, _, rfl, Rps.mono (le2.trans le4) ry⟩ (rel4.loose hDn)⟩
      · rw [if_neg hz] at q; exact q.elim
    | _ => exact q.elim⟩
end
end Dt

set_option Elab.async false
set_option linter.all false
set_option maxRecDepth 100000
set_option maxHeartbeats 4000000
/-! Defs that make lambdas, or call such: their tables of code objects go along. -/
namespace Dt
open PySem PySem.Spec PyProof.Rows L2
def spPT (G : Gx) (n : Nat) (g : List D → FR) : Sp := fun vs H Q E => ∃ ds F Rv, vs.length = n ∧ Apart F Rv H ∧ (∀ t ∈ G.ex.tabs, TabOk F Rv H t) ∧ Rps G.K F vs ds ∧ match g ds with
  | .ok d _ => ∀ v H' F', FLe F F' → Apart F' Rv H' → (∀ t ∈ G.ex.tabs, TabOk F' Rv H' t) → Rp G.K F' v d → Q v H'
  | .exc x => ∀ cls dd H' F', FLe F F' → Apart F' Rv H' → (∀ t ∈ G.ex.tabs, TabOk F' Rv H' t) → XR G F' x cls dd H' → E cls dd H'
  | .stuck => False
section
variable {K : PySem.W.Frag} {T : List (Addr × Str)} {io : Io T} {Rv : Hp} {ρ : Env} {F F' : Hp} {σ : L2.St} {H H' : Hp}
/-- what others keep, and one's own objects -/
def OwnsAt (ρ : Env) (σ : L2.St) (a : Addr) : Prop := ∃ (i : Nat) (c : Cell) (d : D), ρ[i]? = some c ∧ c.held = some d ∧ σ[i]? = some (some (V.ref a))
open Classical in
noncomputable def restT (F Rv H : Hp) (ρ : Env) (σ : L2.St) : Hp := fun a => if F a = none ∧ ((∃ o, Rv a = some o) ∨ OwnsAt ρ σ a) then H a else none
theorem restT_le : FLe (restT F Rv H ρ σ) H := fun a o e => by
  unfold restT at e
  split at e
  · exact e
  · cases e
theorem restT_own (r : Rel K io Rv ρ F σ H) {i : Nat} {c : Cell} {d : D} {a : Addr} (h1 : ρ[i]? = some c) (h2 : c.held = some d) (h3 : σ[i]? = some (some (V.ref a))) : OwnAt K F Rv H a d := by
  have q := r.cell i c _ h1 h3
  cases c with
  | no => cases h2
  | fro d => cases h2
  | own d => cases h2; obtain ⟨p, e, q⟩ := q; cases e; exact q
  | io d => cases h2; obtain ⟨p, e, q⟩ := q; cases e; exact q
theorem restT_apart (r : Rel K io Rv ρ F σ H) : Apart F (restT F Rv H ρ σ) H := ⟨r.fH, restT_le, (fun a o e => by
  unfold restT
  rw [if_neg (fun z => by rw [e] at z; cases z.1)]), r.nt⟩
theorem restT_tab (r : Rel K io Rv ρ F σ H) : ∀ t ∈ T, TabOk F (restT F Rv H ρ σ) H t := fun t ht => by
  obtain ⟨q1, q2, q3, ps, q4, q5⟩ := r.tab t ht
  have own_no : ∀ {a : Addr} {o : HO} {d : D}, OwnAt K F Rv H a d → H a = some o → (∀ ps, o ≠ .tbl ps) ∧ ∀ q, o ≠ LamX.CodeO a q := fun {a o d} w e => by
    obtain ⟨o', e', h⟩ := w.at_
    rw [e] at e'
    cases e'
    refine ⟨fun ps z => ?_, fun q => h.nx q⟩
    subst z
    cases d with
    | lst ds => obtain ⟨xs, z, _⟩ := h; cases z
    | dct ks ds => obtain ⟨xs, z, _⟩ := h; cases z
    | nd ks ds => obtain ⟨ob, xs, vs, z, _⟩ := h; unfold AtO at z; cases z
    | _ => exact h
  refine ⟨q1, ?_, ⟨fun a ps z => ?_, fun a q z => ?_⟩, ps, q4, q5⟩
  · unfold restT
    refine if_neg fun z => ?_
    rcases z.2 with ⟨o, z⟩ | ⟨i, c, d, z1, z2, z3⟩
    · rw [q2] at z; cases z
    · exact (own_no (restT_own r z1 z2 z3) q4).1 ps rfl
  · unfold restT at z
    split at z
    · rename_i h
      rcases h.2 with ⟨o, h⟩ | ⟨i, c, d, z1, z2, z3⟩
      · have := r.rH a o h
        rw [z] at this
        cases this
        exact q3.1 a ps h
      · exact (own_no (restT_own r z1 z2 z3) z).1 ps rfl
    · cases z
  · unfold restT at z
    split at z
    · rename_i h
      rcases h.2 with ⟨o, h⟩ | ⟨i, c, d, z1, z2, z3⟩
      · have := r.rH a o h
        rw [z] at this
        cases this
        exact q3.2 a q h
      · exact (own_no (restT_own r z1 z2 z3) z).2 q rfl
    · cases z
theorem Rel.behindT (r : Rel K io Rv ρ F σ H) (le : FLe F F') (ap : Apart F' (restT F Rv H ρ σ) H') (tb : ∀ t ∈ T, TabOk F' (restT F Rv H ρ σ) H' t) : Rel K io Rv ρ F' σ H' := by
  have nF : ∀ {a o}, Rv a = some o → F a = none := fun {a o} e => by
    cases e' : F a with
    | none => rfl
    | some u => have z := r.dj a u e'; rw [e] at z; cases z
  have keep : ∀ {a o}, restT F Rv H ρ σ a = some o → H' a = some o ∧ F' a = none := fun {a o} q => by
    refine ⟨ap.r _ _ q, ?_⟩
    cases e' : F' a with
    | none => rfl
    | some u => have z := ap.d a u e'; rw [q] at z; cases z
  have kR : ∀ {a o}, Rv a = some o → restT F Rv H ρ σ a = some o := fun {a o} e => by
    unfold restT
    rw [if_pos ⟨nF e, .inl ⟨o, e⟩⟩]
    exact r.rH a o e
  refine ⟨ap.f, fun a o e => (keep (kR e)).1, fun a o e => ?_, r.len, fun i c v e1 e2 => ?_, r.inj, r.ios, r.ioc, fun t ht => ?_, ap.nt⟩
  · cases e' : Rv a with
    | none => rfl
    | some u => have z := (keep (kR e')).2; rw [e] at z; cases z
  · have q := r.cell i c v e1 e2
    have own : ∀ {p d}, c.held = some d → v = some (.ref p) → OwnAt K F Rv H p d → OwnAt K F' Rv H' p d := fun {p d} hh hv w => by
      subst hv
      obtain ⟨o, e, h⟩ := w.at_
      have q : restT F Rv H ρ σ p = some o := by
        unfold restT
        rw [if_pos ⟨w.nF, .inr ⟨i, c, d, e1, hh, e2⟩⟩]
        exact e
      obtain ⟨k1, k2⟩ := keep q
      exact ⟨k2, w.nR, o, k1, h.mono le⟩
    cases c with
    | no => trivial
    | fro d => obtain ⟨x, e, q⟩ := q; exact ⟨x, e, q.mono le⟩
    | own d => obtain ⟨p, e, q⟩ := q; exact ⟨p, e, own rfl e q⟩
    | io d => obtain ⟨p, e, q⟩ := q; exact ⟨p, e, own rfl e q⟩
  · obtain ⟨t1, t2, t3, ps, t4, t5⟩ := tb t ht
    obtain ⟨q1, q2, q3, _⟩ := r.tab t ht
    exact ⟨t1, q2, q3, ps, t4, t5⟩
end
section
variable {ex : Exx} {X : Cx} {W : WX} {x : Str} {k n : Nat} {g : List D → FR} {e : Expr} {es : List Expr} {sA : SA} {p pos : Pos}
theorem d_callPT (hu : At X W) (C : Cal X.prog X.w X.K X.mg X.base x k (spPT (GK X ex) n g)) (hr : Room k X.A) (hg : Gl X x)
    (ha : DA (GK X ex) X W (e :: es) sA) (hdb : (x == ("__debug__" : Str)) = false := by decide) (he : starEach (e :: es) X.env = (false, eval e X.env) :: starEach es X.env := by rfl) (hpl : (backTo pos (starEach es X.env)).any (·.1) = false := by rfl) :
    DE (GK X ex) X W (.Call (.Name x p) (e :: es) [] pos) (sCallP n g sA) :=
  let ⟨f, fd, ps, F, hm, hk, hb⟩ := C.there
  wkE (pe_callS (E := WE W) F hr hg hm hk hb (fun σ => L2N.passAt hu.tk σ) ha hdb he hpl) fun σ H Q ⟨ρ, F, Rv, io, rel, q⟩ => by
    refine ⟨ρ, F, Rv, io, rel, ?_⟩
    unfold sCallP at q
    cases e : sA ρ with
    | stuck => rw [e] at q; exact q.elim
    | exc x ρ' => rw [e] at q; exact q
    | ok ds ρ' =>
      rw [e, R.bind_ok] at q
      intro vs H1 F1 le rel1 r
      by_cases hn : ds.length = n
      · rw [if_pos hn] at q
        refine ⟨ds, F1, restT F1 Rv H1 ρ' σ, r.length.trans hn, restT_apart rel1, restT_tab rel1, r, ?_⟩
        cases e2 : g ds with
        | stuck => rw [e2] at q; exact q.elim
        | ok d o => rw [e2] at q; exact fun v H' F' le2 ap tb rp => q v H' F' (le.trans le2) (rel1.behindT le2 ap tb) rp
        | exc x => rw [e2] at q; exact fun cls dd H' F' le2 ap tb xr => q cls dd σ H' F' (le.trans le2) (rel1.behindT le2 ap tb) xr
      · rw [if_neg hn] at q; exact q.elim
end
section
variable {P : Program} {w : World} {K : PySem.W.Frag} {mg : Str → Option Value} {base : Heap}
theorem rel_startT {T : List (Addr × Str)} {F Rv H : Hp} {vs : List V} {ds : List D} {m : Nat} (ap : Apart F Rv H) (tb : ∀ t ∈ T, TabOk F Rv H t) (r : Rps K F vs ds) : Rel K ({} : Io T) Rv (ds.map Cell.fro ++ List.replicate m Cell.no) F (vs.map some ++ List.replicate m none) H := by
  have r0 := rel_start (m := m) (K := K) ap r
  exact ⟨r0.fH, r0.rH, r0.dj, r0.len, r0.cell, r0.inj, fun ip hip => (nomatch hip), (fun i d e => (nomatch fro_held (c := .io d) e)), tb, r0.nt⟩
/-- a def with tables -/
theorem okT {x qual : Str} {st : Stmt} {f : Addr} {fd : FuncData} {N ps : List Str} {k : Nat} {body : SS} (ea : String → Addr) (T : List (Addr × Str)) (F : Fun K x qual st f fd) (S : FnScope N ps (defScope st))
    (h : ∀ (cdv : Value) (A : Around) (outer : List PySem.Env) (s : Shared) (H : Hp) (E : XK), fd.code = cdv → Room k (A.deeper (envOfC qual (defScope st) s.heap.objs.size f cdv)) →
      DSs ⟨K, ⟨ea, T⟩⟩ (cxOf (L2N.CX P w) P w K mg base N qual (defScope st) f cdv A outer s H E) (wE E) (defBody st) body) : FnOk P w K mg base (L2N.CX P w) (k + 1) f fd ps (spPT ⟨K, ⟨ea, T⟩⟩ ps.length (runP N.length ps.length body)) := by
  obtain ⟨_, _, _, _, _, _, cd, _, _, e, l, c⟩ := F.ex
  subst e
  refine fn_of l c S (fun vs H Q E ⟨_, _, _, hl, _⟩ => hl) fun A outer s H vs Q E hr ⟨ds, F0, Rv, hl, ap, tb, r, q⟩ => ⟨_, h cd A outer s H E rfl hr, ?_⟩
  have e0 : L2.start N vs = vs.map some ++ List.replicate (N.length - ps.length) none := by unfold L2.start; rw [hl]
  rw [e0]
  refine ⟨_, F0, Rv, {}, rel_startT ap tb r, ?_⟩
  unfold runP at q
  cases e : body (ds.map Cell.fro ++ List.replicate (N.length - ps.length) Cell.no) with
  | stuck => rw [e] at q; exact q.elim
  | exc x ρ' => rw [e] at q; exact fun cls dd σ' H' F' le rel xr => q cls dd H' F' le ⟨rel.fH, rel.rH, rel.dj, rel.nt⟩ rel.tab xr
  | ok fl ρ' =>
    rw [e] at q
    cases fl with
    | nx => exact fun σ' H' F' le rel => q _ H' F' le ⟨rel.fH, rel.rH, rel.dj, rel.nt⟩ rel.tab .non
    | bk => exact q.elim
    | ct => exact q.elim
    | rt d => exact fun v σ' H' F' le rel rp => q v H' F' le ⟨rel.fH, rel.rH, rel.dj, rel.nt⟩ rel.tab rp
theorem cal_PT {x : Str} {st : Stmt} {N ps : List Str} {k : Nat} {body : SS} (ea : String → Addr) (T : List (Addr × Str)) (F : Fn K mg x st ps) (S : FnScope N ps (defScope st))
    (h : ∀ (f : Addr) (fd : FuncData) (cdv : Value) (A : Around) (outer : List PySem.Env) (s : Shared) (H : Hp) (E : XK), Fun K x x st f fd → mg x = some (.ref f) → fd.code = cdv → Room k (A.deeper (envOfC x (defScope st) s.heap.objs.size f cdv)) →
      DSs ⟨K, ⟨ea, T⟩⟩ (cxOf (L2N.CX P w) P w K mg base N x (defScope st) f cdv A outer s H E) (wE E) (defBody st) body) : Cal P w K mg base x (k + 1) (spPT ⟨K, ⟨ea, T⟩⟩ ps.length (runP N.length ps.length body)) := by
  obtain ⟨f, fd, F, hm, hb⟩ := F.there
  exact ⟨f, fd, ps, okT ea T F S fun cdv A outer s H E hc hr => h f fd cdv A outer s H E F hm hc hr, hm, F.kp, hb⟩
end
end Dt

set_option Elab.async false
set_option linter.all false
set_option maxRecDepth 100000
set_option maxHeartbeats 4000000
/-! The start where a def's own table of lambdas is empty, whichever def it is. -/
namespace Dt
open PySem PySem.Spec PyProof.Rows L2
section
variable {P : Program} {w : World} {K : PySem.W.Frag} {mg : Str → Option Value} {base : Heap}
theorem law_T2 {x y q0 : Str} {st : Stmt} {fa Tb : Addr} {fd : FuncData} {N : List Str} {k : Nat} {ea : String → Addr} {body : SS} (F : Fun K x x st fa fd) (S : FnScope N [y] (defScope st))
    (h : ∀ (cdv : Value) (A : Around) (outer : List PySem.Env) (s : Shared) (H : Hp) (E : XK), Room k (A.deeper (envOfC x (defScope st) s.heap.objs.size fa cdv)) →
      DSs ⟨K, ⟨ea, [(Tb, q0)]⟩⟩ (cxOf (L2N.CX P w) P w K mg base N x (defScope st) fa cdv A outer s H E) (wE E) (defBody st) body) :
    FnOk P w K mg base (L2N.CX P w) (k + 1) fa fd [y] (spT K Tb (runP N.length 1 body)) := by
  obtain ⟨_, _, _, _, _, _, cd, _, _, e, l, c⟩ := F.ex
  subst e
  refine fn_of l c S (fun vs H Q E ⟨a, _, _, e, _⟩ => by rw [e]; rfl) fun A outer s H vs Q E hr ⟨a, ns, o, ev, hT, hS, hm, q⟩ => ⟨_, h cd A outer s H E hr, ?_⟩
  subst ev
  classical
  let F : Hp := fun b => if ∃ ps, H b = some (.tbl ps) then none else H b
  have hF : ∀ {b u}, H b = some u → (∀ ps, u ≠ .tbl ps) → F b = some u := fun {b u} e n => (if_neg (fun ⟨ps, z⟩ => n ps (Option.some.inj (e.symm.trans z)))).trans e
  have fH : FLe F H := fun b u e => by
    by_cases z : ∃ ps, H b = some (.tbl ps)
    · rw [show F b = none from if_pos z] at e; cases e
    · rw [show F b = H b from if_neg z] at e; exact e
  have nt : NoTb F := fun b ps e => by
    have z : F b = none := if_pos ⟨ps, fH b _ e⟩
    rw [z] at e; cases e
  have sF : SqL K F a (ns.map V.int) := by
    rcases hS with (r | ⟨o, r⟩) | r
    · exact .inl (.inl (hF r fun _ z => nomatch z))
    · exact .inl (.inr ⟨o, hF r fun _ z => nomatch z⟩)
    · exact .inr r
  have e0 : L2.start N [.ref a] = [V.ref a].map some ++ List.replicate (N.length - 1) none := rfl
  rw [e0]
  have rp : Rps K F [V.ref a] [.scr ns] := .cons (.scr sF) .nil
  refine ⟨[D.scr ns].map Cell.fro ++ List.replicate (N.length - 1) Cell.no, F, fun _ => none, {}, rel_startT (m := N.length - 1) (K := K) (Rv := fun _ => none) ⟨fH, (fun a o z => nomatch z), (fun _ _ _ => rfl), nt⟩ (fun t ht => ?_) rp, ?_⟩
  · have et : t = (Tb, q0) := List.mem_singleton.mp ht
    subst et
    exact ⟨if_pos ⟨_, hT⟩, rfl, ⟨(fun a ps z => nomatch z), fun a q z => nomatch z⟩, #[], hT, trivial, fun pos cv z => by simp [codeAmong] at z⟩
  · unfold runP at hm
    have hm : (match body ([D.scr ns].map Cell.fro ++ List.replicate (N.length - 1) Cell.no) with | .ok (.rt d) _ => FR.ok d [] | .ok .nx _ => .ok .non [] | .exc x _ => .exc x | _ => .stuck) = .ok (.bl true) o := hm
    cases e : body ([D.scr ns].map Cell.fro ++ List.replicate (N.length - 1) Cell.no) with
    | stuck => rw [e] at hm; cases hm
    | exc x ρ' => rw [e] at hm; cases hm
    | ok fl ρ' =>
      rw [e] at hm
      cases fl with
      | rt d => cases hm; exact fun v σ' H' F' le rel rp => by cases rp; exact q H'
      | nx => cases hm
      | bk => cases hm
      | ct => cases hm
end
open LamX in
theorem own_of {l : PySem.W.OpenLaw} {n k : Nat} {q : Program} {loose : List Str} {XP : (Str → Option Value) → Heap → Prop} {YP : World → Heap → Prop} {d : DefRec} {K : Params → PySem.W.Frag} {CX : World → CXT} {x dn : Str}
    (hn : l.most = some n) (hn2 : n ≤ sizeLine) (hdf : d.params.defaults = []) (hr : Room k callerA) (hrec : ((recsOf q).any fun e => e.name == dn) = true) (hY : ∀ (w : World) (h : Heap), YP w h → (K w.params).In h)
    (F : ∀ (w : World) (mg : Str → Option Value) (fa : Addr) (h : Heap), YP w h → (K w.params).In h → h.Ns mainGlobals mg → mg d.name = some (.ref fa) → (∀ fr, mg dn = some (.ref fr) → OwnTab (K w.params) fr h) → LawAtS l w (K w.params) (CX w) k n x mg fa h)
    (hCX : ∀ (w : World) (H : Hp) (s : Shared) (e : Value) (s' : Shared), CX w [] H s (fun _ _ _ => False) e s' → False) :
    PySem.W.WalkO q loose XP YP l.row.toRowW d [] (fun f vs => PySem.call f vs) := by
  refine Att.attach_callB hn hdf fun w s₀ s₁ mg mb fa o pm cd doc a vs ns G Y ho hd hcd hmg hobj hints hlen hbits hg => ?_
  have KX := hY w _ Y
  obtain ⟨fd, cs, sp, hT, nT, C, hb, hsp, hF⟩ := F w mg fa _ Y KX G.T.g hmg fun fr hfr c P o1 fd1 e dd vs1 sl k1 k2 k3 k4 k5 => by
    obtain ⟨dL, hm, hn1⟩ := List.any_eq_true.mp hrec
    have hn2 : dL.name = dn := beq_iff_eq.mp hn1
    obtain ⟨a', o', fd', c', P', h1, h2, h3, h4, _, ⟨oc, vc, e1, _, e3, e4⟩, hP⟩ := G.T.tab dL hm
    have q1 : some (Value.ref a') = some (.ref fr) := (hn2 ▸ h1).symm.trans hfr
    cases q1
    cases (KX _ _ k1).symm.trans h2
    cases k2.symm.trans h3
    cases k3.symm.trans h4
    cases (KX _ _ k4).symm.trans e1
    cases e3
    cases k5.symm.trans e4
    exact hP
  exact law_callTs KX G.T.g G.T.b G.T.builtins G.T.nolimit hg hT nT C G.T.bmain hobj hints (Nat.le_trans hlen hn2) hr hF hb (fun H hH hS => hsp H a ns hlen hbits hH hS) fun H e s' => hCX w H s₁ e s'
theorem walkT2 {xp dn : Str} {l : PySem.W.OpenLaw} {q : Program} {loose : List Str} {XP : (Str → Option Value) → Heap → Prop} {YP : World → Heap → Prop} {d : DefRec} {K : Params → PySem.W.Frag} {k : Nat} {m : List D → FR} (hn : l.most = some 63) (hdf : d.params.defaults = []) (hr : Room k callerA)
    (hrec : ((recsOf q).any fun e => e.name == dn) = true) (hY : ∀ (w : World) (h : Heap), YP w h → (K w.params).In h)
    (F : ∀ (w : World) (mg : Str → Option Value) (fa : Addr) (h : Heap), (K w.params).In h → h.Ns mainGlobals mg → mg d.name = some (.ref fa) →
      ∃ (fd fdr : FuncData) (fr c P : Addr) (o1 : Obj) (e : Value) (dd : Option Addr) (vs : Array Value) (sl : Array (Option Value)), mg dn = some (.ref fr) ∧ (K w.params).lookup fr = some o1 ∧ o1.data = .func fdr ∧ fdr.code = .ref c ∧ (K w.params).lookup c = some ⟨e, dd, .fields vs, sl⟩ ∧ vs[11]? = some (.ref P) ∧
        PySem.W.codeHdIn (K w.params) c P = true ∧ (K w.params).lookup P = none ∧ (∀ (s : Shared) (u : Value), BindsTo s fd ⟨[u], []⟩ [(xp, u)]) ∧
        ∀ base : Heap, (K w.params).In base → base.Ns mainGlobals mg → LamX.TabB base mg c P → FnOk l.prog w (K w.params) mg base (L2N.CX l.prog w) k fa fd [xp] (spT (K w.params) P m))
    (plain : ∀ ns : List Int, ns.length ≤ 63 → (∀ z ∈ ns, Builtin.Int.intBits z ≤ 1048576) → ∃ o, m [.scr ns] = .ok (.bl true) o) :
    PySem.W.WalkO q loose XP YP l.row.toRowW d [] (fun f vs => PySem.call f vs) :=
  own_of (n := 63) (k := k) (x := xp) (dn := dn) (CX := fun w => L2N.CX l.prog w) hn (by decide) hdf hr hrec hY (fun w mg fa h Y KX G hmg own => by
    obtain ⟨fd, fdr, fr, c, P, o1, e, dd, vs, sl, k0, k1, k2, k3, k4, k5, k6, k7, hb, hF⟩ := F w mg fa h KX G hmg
    refine ⟨fd, [(c, P)], spT (K w.params) P m, fun p hp => ?_, fun p hp => ?_, fun p hp => ?_, hb, fun H a ns hl hbits hT hS => ?_, fun base kb gb hTB => hF base kb gb (hTB (c, P) (.head _))⟩
    · rw [List.mem_singleton.mp hp]; exact own fr k0 c P o1 fdr e dd vs sl k1 k2 k3 k4 k5
    · rw [List.mem_singleton.mp hp]; exact k7
    · rw [List.mem_singleton.mp hp]; exact PySem.W.codeHd_of_K KX k6
    · obtain ⟨o, z⟩ := plain ns hl hbits
      exact ⟨a, ns, o, rfl, hT (c, P) (.head _), hS, z, fun _ => rfl⟩) fun w H s e s' z => by
    obtain ⟨_, _, _, _, _, _, _, _, _, _, _, _, z⟩ := z
    exact z
end Dt

set_option Elab.async false
set_option linter.all false
set_option maxRecDepth 100000
set_option maxHeartbeats 4000000
/-! A list of one's own, lent to an expression that reads it. -/
namespace Dt
open PySem PySem.Spec PyProof.Rows L2
mutual
/-- no list in it -/
def D.lfree : D → Bool
  | .lst _ => false
  | .scr _ => false
  | .nd _ _ => false
  | .dct _ ds => D.lfrees ds
  | .tup ds => D.lfrees ds
  | .arg ds => D.lfrees ds
  | _ => true
def D.lfrees : List D → Bool
  | [] => true
  | d :: ds => d.lfree && D.lfrees ds
end
def heldFree : D → Bool
  | .lst ds => D.lfrees ds
  | .dct _ ds => D.lfrees ds
  | _ => false
def cellFreeL : Cell → Bool
  | .own d => heldFree d
  | .io d => heldFree d
  | _ => true
section
variable {K : PySem.W.Frag} {F : Hp} {p : Addr} {xs0 : List V}
mutual
theorem Rp.eraseL (hp : F p = some (.lst xs0)) : ∀ {v : V} {d : D}, Rp K F v d → d.lfree = true → Rp K (eraseH F p) v d
  | _, _, .non, _ => .non
  | _, _, .bl b, _ => .bl b
  | _, _, .int i, _ => .int i
  | _, _, .str s, _ => .str s
  | _, _, .tup t r, h => .tup (let ⟨o, e1, e2⟩ := t; ⟨o, e1, by rw [erase_ne (fun z => by subst z; rw [hp] at e2; cases e2)]; exact e2⟩) (Rps.eraseL hp r (by rw [D.lfree] at h; exact h))
  | _, _, .arg t r, h => .arg (by
      rcases t with (t | ⟨o, t⟩) | t
      · exact .inl (.inl (by rw [erase_ne (fun z => by subst z; rw [hp] at t; cases t)]; exact t))
      · exact .inl (.inr ⟨o, by rw [erase_ne (fun z => by subst z; rw [hp] at t; cases t)]; exact t⟩)
      · exact .inr t) (Rps.eraseL hp r (by rw [D.lfree] at h; exact h))
  | _, _, .lst t r, h => by rw [D.lfree] at h; cases h
  | _, _, .dct t r, h => .dct (by rw [erase_ne (fun z => by subst z; rw [hp] at t; cases t)]; exact t) (Rps.eraseL hp r (by rw [D.lfree] at h; exact h))
  | _, _, .scr t, h => by rw [D.lfree] at h; cases h
  | _, _, .fn nm, _ => .fn nm
  | _, _, .exn a, _ => .exn a
  | _, _, .nd _ _ _ _, h => by rw [D.lfree] at h; cases h
theorem Rps.eraseL (hp : F p = some (.lst xs0)) : ∀ {vs : List V} {ds : List D}, Rps K F vs ds → D.lfrees ds = true → Rps K (eraseH F p) vs ds
  | _, _, .nil, _ => .nil
  | _, _, .cons a b, h => by
    rw [D.lfrees, Bool.and_eq_true] at h
    exact .cons (Rp.eraseL hp a h.1) (Rps.eraseL hp b h.2)
end
theorem OwnObj.eraseL (hp : F p = some (.lst xs0)) {q : Addr} {o : HO} {d : D} (h : OwnObj K F q o d) (hd : heldFree d = true) : OwnObj K (eraseH F p) q o d := by
  cases d with
  | lst ds =>
    obtain ⟨xs, e, r⟩ := h
    exact ⟨xs, e, r.eraseL hp hd⟩
  | dct ks ds =>
    obtain ⟨kvs, e, e2, r⟩ := h
    exact ⟨kvs, e, e2, r.eraseL hp hd⟩
  | _ => cases hd
end
open Classical in
/-- s, which reads the list of one's own at i as data; nothing else of the environment may change -/
noncomputable def sLendL (i : Nat) (s : SE) : SE := fun ρ => match (ρ[i]? : Option Cell) with
  | some (.own (.lst ds)) => match s (ρ.set i (.fro (.lst ds))) with
    | .ok v ρ' => if ρ' = ρ.set i (.fro (.lst ds)) ∧ v.lfree = true ∧ (ρ.set i .no).all cellFreeL = true then .ok v ρ else .stuck
    | _ => .stuck
  | _ => .stuck
section
variable {G : Gx} {X : Cx} {W : WX} {e : Expr} {s : SE}
theorem d_lendL {i : Nat} (h : DE G X W e s) : DE G X W e (sLendL i s) := wkE h fun σ H Q ⟨ρ, F, Rv, io, rel, q⟩ => by
  unfold sLendL at q
  cases e1 : ρ[i]? with
  | none => rw [e1] at q; exact q.elim
  | some c =>
    rw [e1] at q
    cases c with
    | own d =>
      cases d with
      | lst ds =>
        simp only at q
        cases e2 : s (ρ.set i (.fro (.lst ds))) with
        | stuck => rw [e2] at q; exact q.elim
        | exc x ρ' => rw [e2] at q; exact q.elim
        | ok v ρ' =>
          rw [e2] at q
          simp only at q
          by_cases hc : ρ' = ρ.set i (.fro (.lst ds)) ∧ v.lfree = true ∧ (ρ.set i .no).all cellFreeL = true
          case neg => rw [if_neg hc] at q; exact q.elim
          rw [if_pos hc] at q
          obtain ⟨rfl, hv, hfree⟩ := hc
          obtain ⟨p, e3, w⟩ := rel.heldAt e1 rfl
          obtain ⟨o, e4, ow⟩ := w.at_
          have ow' := ow
          obtain ⟨xs, rfl, r⟩ := ow
          obtain ⟨le1, rel1, rp1⟩ := rel.freeze e1 e3 e4 ow' { cls := .type "list", data := .seq #[] 0 }
          rw [lk_lst] at le1 rel1
          have eH : upd H p (.lst xs) = H := by
            funext a
            by_cases z : a = p
            · subst z; rw [upd_same, e4]
            · rw [upd_ne z]
          rw [eH] at rel1
          refine ⟨ρ.set i (.fro (.lst ds)), _, Rv, io, rel1, ?_⟩
          rw [e2]
          intro x H' F' le2 rel2 rp2
          have hp : F' p = some (.lst xs) := le2 _ _ upd_same
          have hpH : H' p = some (.lst xs) := rel2.fH _ _ hp
          have leF : FLe F (eraseH F' p) := fun a u ea => by
            have ne : a ≠ p := fun z => by subst z; rw [w.nF] at ea; cases ea
            rw [erase_ne ne]
            exact le2 _ _ (by show upd F p _ a = _; rw [upd_ne ne]; exact ea)
          refine q x _ (eraseH F' p) leF ?_ (rp2.eraseL hp hv)
          refine ⟨fun a u ea => ?_, fun a u ea => rel2.rH _ _ ea, fun a u ea => ?_, rel.len, fun j cj vj f1 f2 => ?_, rel.inj, rel.ios, rel.ioc, fun t ht => ?_, fun a ps z => ?_⟩
          · by_cases z : a = p
            · subst z; rw [erase_same] at ea; cases ea
            · rw [erase_ne z] at ea; exact rel2.fH _ _ ea
          · by_cases z : a = p
            · subst z; exact w.nR
            · rw [erase_ne z] at ea; exact rel2.dj _ _ ea
          · by_cases hj : j = i
            · subst hj
              rw [e1] at f1
              cases f1
              rw [e3] at f2
              cases f2
              exact ⟨p, rfl, erase_same, w.nR, _, hpH, ow'.mono leF⟩
            · have c0 := rel.cell j cj vj f1 f2
              have f1' : (ρ.set i (.fro (.lst ds)))[j]? = some cj := by rw [List.getElem?_set_ne (fun z => hj z.symm)]; exact f1
              have c2 := rel2.cell j cj vj f1' f2
              have fr : cellFreeL cj = true := by
                have : (ρ.set i .no)[j]? = some cj := by rw [List.getElem?_set_ne (fun z => hj z.symm)]; exact f1
                exact List.all_eq_true.mp hfree cj (List.mem_of_getElem? this)
              have keep : ∀ {d' : D} {p' : Addr}, cj.held = some d' → heldFree d' = true → vj = some (.ref p') → OwnAt G.K F' Rv H' p' d' → OwnAt G.K (eraseH F' p) Rv H' p' d' := fun {d' p'} hh hd hvv q => by
                have ne : p' ≠ p := fun z => by
                  subst z
                  subst hvv
                  exact hj (rel.inj j i cj _ d' _ p' f1 e1 hh rfl f2 e3)
                obtain ⟨o', g1, g2⟩ := q.at_
                exact ⟨by rw [erase_ne ne]; exact q.nF, q.nR, o', g1, g2.eraseL hp hd⟩
              cases cj with
              | no => trivial
              | fro d' => obtain ⟨y, rfl, ry⟩ := c0; exact ⟨y, rfl, ry.mono leF⟩
              | own d' => obtain ⟨p', rfl, oy⟩ := c2; exact ⟨p', rfl, keep rfl fr rfl oy⟩
              | io d' => obtain ⟨p', rfl, oy⟩ := c2; exact ⟨p', rfl, keep rfl fr rfl oy⟩
          · obtain ⟨t1, t2, t3, ps, t4, t5, t6⟩ := rel2.tab t ht
            have ne : t.1 ≠ p := fun z => by rw [z] at t1; rw [hp] at t1; cases t1
            refine ⟨by rw [erase_ne ne]; exact t1, t2, t3, ps, t4, t5, fun pos cv z => ?_⟩
            obtain ⟨c, g1, g2⟩ := t6 pos cv z
            refine ⟨c, g1, ?_⟩
            rw [erase_ne fun z => by subst z; rw [hp] at g2; unfold LamX.CodeO at g2; cases g2]
            exact g2
          · by_cases h : a = p
            · subst h; rw [erase_same] at z; cases z
            · rw [erase_ne h] at z; exact rel2.nt _ _ z
      | _ => exact q.elim
    | _ => exact q.elim
end
theorem ev_lendL (i : Nat) (s : SE) (ρ : Env) {ds : List D} (h : ρ[i]? = some (.own (.lst ds))) {v : D} (e : s (ρ.set i (.fro (.lst ds))) = .ok v (ρ.set i (.fro (.lst ds)))) (hv : v.lfree = true) (hc : (ρ.set i .no).all cellFreeL = true) : sLendL i s ρ = .ok v ρ := by
  unfold sLendL
  rw [h]
  show (match s (ρ.set i (.fro (.lst ds))) with | .ok v ρ' => _ | _ => _) = _
  rw [e]
  exact if_pos ⟨rfl, hv, hc⟩
end Dt

set_option Elab.async false
set_option linter.all false
set_option maxRecDepth 100000
set_option maxHeartbeats 4000000
/-! A list display taken so often. -/
namespace Dt
open PySem PySem.Spec PyProof.Rows L2
def gRepL : List D → Option D
  | [.lst a, .int k] => if -(2 ^ 63) ≤ k ∧ k < 2 ^ 63 ∧ a.length * k.toNat ≤ sizeLine then some (.lst (List.replicate k.toNat a).flatten) else none
  | _ => none
theorem repL_lst (ds : List D) (d : D) (e : gRepL ds = some d) : ∃ xs, d = .lst xs := by
  unfold gRepL at e
  split at e
  · split at e
    · cases e; exact ⟨_, rfl⟩
    · cases e
  · cases e
section
variable {G : Gx} {X : Cx} {W : WX} {ex : Exx} {a b : Expr} {sa sb : SO} {pos : Pos}
theorem fsem_repL : FSem G (r2L rRep) gRepL := fun F H vs ds d Q fh vw e q => by
  unfold gRepL at e
  split at e
  · rename_i ds1 k
    split at e
    · rename_i hc
      cases e
      obtain ⟨v, w, rfl, h1, h2⟩ := vw.two
      obtain ⟨l, xs, rfl, t1, r1⟩ := h1.lst fh
      have e2 := h2.int
      subst e2
      exact ⟨_, _, rfl, l, k, xs, rfl, rfl, t1, hc.1, hc.2.1, by rw [r1.length]; exact hc.2.2, fun p hp => q p _ hp ⟨_, rfl, r1.rep _⟩⟩
    · cases e
  · cases e
theorem d_repL (ha : DO (GK X ex) X W a sa) (hb : DO (GK X ex) X W b sb) : DE (GK X ex) X W (.BinOp a .Mult b pos) (sOps gRepL (b2 sa sb)) := d_op op_rep (fsem_repL.pure repL_lst) ha hb
end
end Dt

set_option Elab.async false
set_option linter.all false
set_option maxRecDepth 100000
set_option maxHeartbeats 4000000
namespace Lw
open PySem PySem.Spec PyProof.Rows L2 Dt
noncomputable section
def top (i : Nat) : Stmt := PySem.Challenge.pw_countersums_k04_whole_comparisons_and_ra.main.body.getD i (.Pass ⟨0, 0, 0, 0⟩)
abbrev st_L_draw : Stmt := top 20
theorem sc_L_draw : FnScope ["_law_tape", "_law_many", "_law_prime", "_law_found", "_law_cell"] ["_law_tape", "_law_many"] (defScope st_L_draw) := ⟨rfl, rfl, rfl, by decide +kernel, rfl, by decide +kernel, by decide +kernel⟩
def u0_L_draw : SS := (sSeq (sAsg (gSet 4) (sOps gMod (b2 (sVal (sOps gInt (bCons (sVal (sOps gAdd (b2 (sLoc 4) (sVal (sOps gMul (b2 (sVal (sCst (.int 1000003))) (sVal (sOps gIdx (b2 (sLoc 0) (sVal (sCst (.int 1)))))))))))) bNil))) (sLoc 2))))
  (sSeq (sAsg (gSet 4) (sOps gMod (b2 (sVal (sOps gInt (bCons (sVal (sOps gAdd (b2 (sVal (sOps gAdd (b2 (sVal (sOps gMul (b2 (sLoc 4) (sLoc 4)))) (sVal (sOps gMul (b2 (sVal (sCst (.int 1181783497276652981))) (sLoc 4))))))) (sVal (sCst (.int 2049848353892358983)))))) bNil))) (sLoc 2))))
  (sAsg (gSet 4) (sOps gMod (b2 (sVal (sOps gInt (bCons (sVal (sOps gAdd (b2 (sVal (sOps gMul (b2 (sLoc 4) (sLoc 4)))) (sVal (sCst (.int 1442695040888963407)))))) bNil))) (sLoc 2))))))
def u1_L_draw : SS := (sSeq (sAsg (gSet 4) (sCst (.int 0)))
  (sSeq (sIfS (sTst (sOps gGt (b2 (sVal (sOps gLen (bCons (sVal (sOps gIdx (b2 (sLoc 0) (sVal (sCst (.int 0)))))) bNil))) (sVal (sCst (.int 0)))))) (sAsg (gSet 4) (sOps gIdx (b2 (sVal (sOps gIdx (b2 (sLoc 0) (sVal (sCst (.int 0)))))) (sVal (sOps gMod (b2 (sVal (sOps gInt (bCons (sVal (sOps gIdx (b2 (sLoc 0) (sVal (sCst (.int 1)))))) bNil))) (sVal (sOps gLen (bCons (sVal (sOps gIdx (b2 (sLoc 0) (sVal (sCst (.int 0)))))) bNil))))))))) sNx)
  (sSeq (sIfS (tOrS (sTst (sOps gGe (b2 (sVal (sOps gIdx (b2 (sLoc 0) (sVal (sCst (.int 1)))))) (sVal (sOps gLen (bCons (sVal (sOps gIdx (b2 (sLoc 0) (sVal (sCst (.int 0)))))) bNil)))))) (sTst (sOps gLt (b2 (sLoc 4) (sVal (sOps gPow (b2 (sVal (sCst (.int 10))) (sVal (sCst (.int 18)))))))))) u0_L_draw sNx)
  (sSeq (sAsg (gPut 0 (sVal (sCst (.int 1)))) (sOps gAdd (b2 (sVal (sOps gIdx (b2 (sLoc 0) (sVal (sCst (.int 1)))))) (sVal (sCst (.int 1))))))
  (sAsg (gPut 0 (sVal (sCst (.int 2)))) (sVar 4))))))
def b_L_draw : SS := (sSeq (sAsg (gSet 2) (sCst (.int 2305843009213693951)))
  (sSeq (sIfS (sTst (sOps gLt (b2 (sVal (sOps gIdx (b2 (sLoc 0) (sVal (sCst (.int 2)))))) (sLoc 1)))) u1_L_draw sNx)
  (sSeq (sAsg (gSet 3) (sOps gMod (b2 (sVal (sOps gInt (bCons (sVal (sOps gIdx (b2 (sLoc 0) (sVal (sCst (.int 2)))))) bNil))) (sLoc 1))))
  (sSeq (sAsg (gPut 0 (sVal (sCst (.int 2)))) (sOps gDiv (b2 (sVal (sOps gIdx (b2 (sLoc 0) (sVal (sCst (.int 2)))))) (sLoc 1))))
  (sRet (sVar 3))))))
def m_L_draw : List D → FR := runI 5 2 b_L_draw
abbrev st_L_of : Stmt := top 22
theorem sc_L_of : FnScope ["_law_tape", "_law_some"] ["_law_tape", "_law_some"] (defScope st_L_of) := ⟨rfl, rfl, rfl, by decide +kernel, rfl, by decide +kernel, by decide +kernel⟩
def b_L_of : SS := (sRet (sOps gIdx (b2 (sLoc 1) (sVal (sCallI 0 2 (m_L_draw) (sCons (sOps gLen (bCons (sLoc 1) bNil)) sNil))))))
def m_L_of : List D → FR := runI 2 2 b_L_of
abbrev st_L_key : Stmt := top 24
theorem sc_L_key : FnScope ["_law_tape"] ["_law_tape"] (defScope st_L_key) := ⟨rfl, rfl, rfl, by decide +kernel, rfl, by decide +kernel, by decide +kernel⟩
def b_L_key : SS := (sRet (sCallI 0 2 (m_L_of) (sCons (sLst (sCons (sCst (.str "x")) (sCons (sCst (.str "y")) (sCons (sCst (.str "z")) (sCons (sCst (.str "w")) (sCons (sCst (.str "add")) (sCons (sCst (.str "zzzzzzzz")) sNil))))))) sNil)))
def m_L_key : List D → FR := runI 1 1 b_L_key
abbrev st_L_near : Stmt := top 23
theorem sc_L_near : FnScope ["_law_tape", "_law_wide"] ["_law_tape", "_law_wide"] (defScope st_L_near) := ⟨rfl, rfl, rfl, by decide +kernel, rfl, by decide +kernel, by decide +kernel⟩
def b_L_near : SS := (sRet (sOps gSub (b2 (sVal (sCallI 0 2 (m_L_draw) (sCons (sOps gAdd (b2 (sVal (sOps gMul (b2 (sVal (sCst (.int 2))) (sLoc 1)))) (sVal (sCst (.int 1))))) sNil))) (sLoc 1))))
def m_L_near : List D → FR := runI 2 2 b_L_near
abbrev st_L_counter : Stmt := top 25
theorem sc_L_counter : FnScope ["_law_tape", "_law_limit", "_law_proper_so", "_law_found", "_law_part", "_law_wide"] ["_law_tape", "_law_limit", "_law_proper_so"] (defScope st_L_counter) := ⟨rfl, rfl, rfl, by decide +kernel, rfl, by decide +kernel, by decide +kernel⟩
def t0_L_counter : SS := (sSeq (sAsg (gSet 5) (sOps gIdx (b2 (sVal (sLst (sCons (sCst (.int 2)) (sCons (sCst (.int 5)) (sCons (sOps gPow (b2 (sVal (sCst (.int 10))) (sVal (sCst (.int 20))))) sNil))))) (sVal (sCallI 0 2 (m_L_draw) (sCons (sCst (.int 3)) sNil))))))
  (sAsg (gPut 3 (sVal (sCallI 0 1 (m_L_key) sNil))) (sIf (sTru (sLoc 2)) (sOps gAdd (b2 (sVal (sCst (.int 1))) (sVal (sCallI 0 2 (m_L_draw) (sCons (sVar 5) sNil))))) (sCallI 0 2 (m_L_near) (sCons (sVar 5) sNil)))))
def l0_L_counter : SS := sFor (iRng1' (sCons (sCallI 0 2 (m_L_draw) (sCons (sOps gAdd (b2 (sLoc 1) (sVal (sCst (.int 1))))) sNil)) sNil)) (gSet 4) t0_L_counter
def b_L_counter : SS := (sSeq (sAsg (gOwn 3) (sCst (.dct [] [])))
  (sSeq l0_L_counter
  (sRet (sOps gTupItems (b1 (sLoc 3))))))
def m_L_counter : List D → FR := runI 6 3 b_L_counter
abbrev st_L_like : Stmt := top 21
theorem sc_L_like : FnScope ["_law_one", "_law_two", "_law_k"] ["_law_one", "_law_two"] (defScope st_L_like) := ⟨rfl, rfl, rfl, by decide +kernel, rfl, by decide +kernel, by decide +kernel⟩
def c0_L_like (self : List D → FR) : SE := sComp [2] (iRng1' (sCons (sOps gLen (bCons (sLoc 0) bNil)) sNil)) (gSet 2) (tNotS (sTru (sVal (sCallP 2 self (sCons (sOps gIdx (b2 (sLoc 0) (sLoc 2))) (sCons (sOps gIdx (b2 (sLoc 1) (sLoc 2))) sNil)))))) (sVar 2)
def u0_L_like (self : List D → FR) : SS := (sSeq (sIfS (tOrS (sTst (sOps gNe (b2 (sVal (sIsi ["list"] (sLoc 0))) (sVal (sIsi ["list"] (sLoc 1)))))) (sTst (sOps gNe (b2 (sVal (sIsi ["tuple"] (sLoc 0))) (sVal (sIsi ["tuple"] (sLoc 1))))))) (sRet (sCst (.bl false))) sNx)
  (sSeq (sIfS (sTst (sOps gNe (b2 (sVal (sOps gLen (bCons (sLoc 0) bNil))) (sVal (sOps gLen (bCons (sLoc 1) bNil)))))) (sRet (sCst (.bl false))) sNx)
  (sRet (sOps gEq (b2 (sVal (c0_L_like self)) (sVal (sLst sNil)))))))
def b_L_like (self : List D → FR) : SS := (sSeq (sIfS (sTru (sVal (sIsi ["list", "tuple"] (sLoc 0)))) (u0_L_like self) sNx)
  (sSeq (sIfS (sTru (sVal (sIsi ["list", "tuple"] (sLoc 1)))) (sRet (sCst (.bl false))) sNx)
  (sRet (sAnd (sOps gEq (b2 (sVal (sIsi ["bool"] (sLoc 0))) (sVal (sIsi ["bool"] (sLoc 1))))) (sOps gEq (b2 (sLoc 0) (sLoc 1)))))))
def m_L_like : Nat → List D → FR
  | 0 => fun _ => .stuck
  | n + 1 => runP 3 2 (b_L_like (m_L_like n))
abbrev st_is_name : Stmt := top 7
theorem sc_is_name : FnScope ["thing", "sign"] ["thing"] (defScope st_is_name) := ⟨rfl, rfl, rfl, by decide +kernel, rfl, by decide +kernel, by decide +kernel⟩
def c0_is_name : SE := sComp [1] (iAny (sVar 0)) (gSet 1) tT1 (sOps gIn (b2 (sLoc 1) (sVal (sCst (.str "abcdefghijklmnopqrstuvwxyz")))))
def b_is_name : SS := (sRet (sAnd (sIsi ["str"] (sLoc 0)) (sAnd (sChain gLe gLe (sVal (sCst (.int 1))) (sVal (sOps gLen (bCons (sLoc 0) bNil))) (sVal (sCst (.int 8)))) (sOps gAll (bCons (sVal c0_is_name) bNil)))))
def m_is_name : List D → FR := runP 2 1 b_is_name
abbrev st_is_integer : Stmt := top 6
theorem sc_is_integer : FnScope ["thing"] ["thing"] (defScope st_is_integer) := ⟨rfl, rfl, rfl, by decide +kernel, rfl, by decide +kernel, by decide +kernel⟩
def b_is_integer : SS := (sRet (sAnd (sIsi ["int"] (sLoc 0)) (sNot (sVal (sIsi ["bool"] (sLoc 0))))))
def m_is_integer : List D → FR := runP 1 1 b_is_integer
abbrev st_is_counter : Stmt := top 8
theorem sc_is_counter : FnScope ["thing", "part"] ["thing"] (defScope st_is_counter) := ⟨rfl, rfl, rfl, by decide +kernel, rfl, by decide +kernel, by decide +kernel⟩
def t0_is_counter : SS := (sIfS (tOrS (tNotS (sTru (sVal (sIsi ["tuple"] (sLoc 1))))) (tOrS (sTst (sOps gNe (b2 (sVal (sOps gLen (bCons (sLoc 1) bNil))) (sVal (sCst (.int 2)))))) (tOrS (tNotS (sTru (sVal (sCallP 1 (m_is_name) (sCons (sOps gIdx (b2 (sLoc 1) (sVal (sCst (.int 0))))) sNil))))) (tNotS (sTru (sVal (sCallP 1 (m_is_integer) (sCons (sOps gIdx (b2 (sLoc 1) (sVal (sCst (.int 1))))) sNil)))))))) (sRet (sCst (.bl false))) sNx)
def l0_is_counter : SS := sFor (iAny (sVar 0)) (gSet 1) t0_is_counter
def c0_is_counter : SE := sDComp [1] (iAny (sVar 0)) (gSet 1) tT1 (sOps gIdx (b2 (sLoc 1) (sVal (sCst (.int 0))))) (sCst (.bl true))
def b_is_counter : SS := (sSeq (sIfS (tNotS (sTru (sVal (sIsi ["tuple"] (sLoc 0))))) (sRet (sCst (.bl false))) sNx)
  (sSeq l0_is_counter
  (sRet (sOps gEq (b2 (sVal (sOps gLen (bCons (sVal c0_is_counter) bNil))) (sVal (sOps gLen (bCons (sLoc 0) bNil))))))))
def m_is_counter : List D → FR := runP 2 1 b_is_counter
abbrev st_looked : Stmt := top 9
theorem sc_looked : FnScope ["counters", "counter"] ["counters"] (defScope st_looked) := ⟨rfl, rfl, rfl, by decide +kernel, rfl, by decide +kernel, by decide +kernel⟩
def t0_looked : SS := (sIfS (tNotS (sTru (sVal (sCallP 1 (m_is_counter) (sCons (sVar 1) sNil))))) sNever sNx)
def l0_looked : SS := sFor (iAny (sVar 0)) (gSet 1) t0_looked
def b_looked : SS := l0_looked
def m_looked : List D → FR := runP 2 1 b_looked
abbrev st_keys_of : Stmt := top 10
theorem sc_keys_of : FnScope ["counters", "counter", "key", "count"] ["counters"] (defScope st_keys_of) := ⟨rfl, rfl, rfl, by decide +kernel, rfl, by decide +kernel, by decide +kernel⟩
def c0_keys_of : SE := sDComp2 [1, 2, 3] [2, 3] (iAny (sVar 0)) (gSet 1) (iAny (sVar 1)) (gTup' 2 (gC (gSet 2) (gC (gSet 3) gN))) (sVar 2) (sCst (.bl true))
def b_keys_of : SS := (sRet (sOps gList (bCons (sVal c0_keys_of) bNil)))
def m_keys_of : List D → FR := runP 4 1 b_keys_of
abbrev st_all_equal : Stmt := top 11
theorem sc_all_equal : FnScope ["one", "other", "counts", "others", "key"] ["one", "other"] (defScope st_all_equal) := ⟨rfl, rfl, rfl, by decide +kernel, rfl, by decide +kernel, by decide +kernel⟩
def c0_all_equal : SE := sComp [4] (iAny (sCallS (m_keys_of) (sCons (sVar 0) (sCons (sVar 1) sNil)))) (gSet 4) tT1 (sOps gEq (b2 (sVal (sGet2 (sLoc 2) (sVar 4) (sCst (.int 0)))) (sVal (sGet2 (sLoc 3) (sVar 4) (sCst (.int 0))))))
def b_all_equal : SS := (sSeq (sAsg (gTup' 2 (gC (gSet 2) (gC (gSet 3) gN))) (sTup (sCons (sOps gDict (bCons (sLoc 0) bNil)) (sCons (sOps gDict (bCons (sLoc 1) bNil)) sNil))))
  (sRet (sOps gAll (bCons (sVal c0_all_equal) bNil))))
def m_all_equal : List D → FR := runP 5 2 b_all_equal
abbrev st_equal : Stmt := top 13
theorem sc_equal : FnScope ["one", "other"] ["one", "other"] (defScope st_equal) := ⟨rfl, rfl, rfl, by decide +kernel, rfl, by decide +kernel, by decide +kernel⟩
def b_equal : SS := (sSeq (sExpr (sCallS (m_looked) (sCons (sVar 0) (sCons (sVar 1) sNil))))
  (sRet (sCallP 2 (m_all_equal) (sCons (sVar 0) (sCons (sVar 1) sNil)))))
def m_equal : List D → FR := runP 2 2 b_equal
abbrev st_all_at_most : Stmt := top 12
theorem sc_all_at_most : FnScope ["one", "other", "counts", "others", "key"] ["one", "other"] (defScope st_all_at_most) := ⟨rfl, rfl, rfl, by decide +kernel, rfl, by decide +kernel, by decide +kernel⟩
def c0_all_at_most : SE := sComp [4] (iAny (sCallS (m_keys_of) (sCons (sVar 0) (sCons (sVar 1) sNil)))) (gSet 4) tT1 (sOps gLe (b2 (sVal (sGet2 (sLoc 2) (sVar 4) (sCst (.int 0)))) (sVal (sGet2 (sLoc 3) (sVar 4) (sCst (.int 0))))))
def b_all_at_most : SS := (sSeq (sAsg (gTup' 2 (gC (gSet 2) (gC (gSet 3) gN))) (sTup (sCons (sOps gDict (bCons (sLoc 0) bNil)) (sCons (sOps gDict (bCons (sLoc 1) bNil)) sNil))))
  (sRet (sOps gAll (bCons (sVal c0_all_at_most) bNil))))
def m_all_at_most : List D → FR := runP 5 2 b_all_at_most
abbrev st_at_most : Stmt := top 14
theorem sc_at_most : FnScope ["one", "other"] ["one", "other"] (defScope st_at_most) := ⟨rfl, rfl, rfl, by decide +kernel, rfl, by decide +kernel, by decide +kernel⟩
def b_at_most : SS := (sSeq (sExpr (sCallS (m_looked) (sCons (sVar 0) (sCons (sVar 1) sNil))))
  (sRet (sCallP 2 (m_all_at_most) (sCons (sVar 0) (sCons (sVar 1) sNil)))))
def m_at_most : List D → FR := runP 2 2 b_at_most
abbrev st_L_equal : Stmt := top 26
theorem sc_L_equal : FnScope ["_law_one", "_law_other", "_law_keys", "_law_first", "_law_second", "_law_key_here"] ["_law_one", "_law_other"] (defScope st_L_equal) := ⟨rfl, rfl, rfl, by decide +kernel, rfl, by decide +kernel, by decide +kernel⟩
def c0_L_equal : SE := sComp [5] (iAny (sVar 2)) (gSet 5) (sTst (sOps gNe (b2 (sVal (sGet2 (sLoc 3) (sVar 5) (sCst (.int 0)))) (sVal (sGet2 (sLoc 4) (sVar 5) (sCst (.int 0))))))) (sVar 5)
def b_L_equal : SS := (sSeq (sAsg (gTup' 2 (gC (gSet 3) (gC (gSet 4) gN))) (sTup (sCons (sOps gDict (bCons (sLoc 0) bNil)) (sCons (sOps gDict (bCons (sLoc 1) bNil)) sNil))))
  (sSeq (sAsg (gSet 2) (sOps gAdd (b2 (sVal (sOps gList (bCons (sLoc 3) bNil))) (sVal (sOps gList (bCons (sLoc 4) bNil))))))
  (sRet (sOps gEq (b2 (sVal c0_L_equal) (sVal (sLst sNil)))))))
def m_L_equal : List D → FR := runP 6 2 b_L_equal
abbrev st_L_at_most : Stmt := top 27
theorem sc_L_at_most : FnScope ["_law_one", "_law_other", "_law_first", "_law_second", "_law_key_here"] ["_law_one", "_law_other"] (defScope st_L_at_most) := ⟨rfl, rfl, rfl, by decide +kernel, rfl, by decide +kernel, by decide +kernel⟩
def c0_L_at_most : SE := sComp [4] (iAny (sOps gAdd (b2 (sVal (sOps gList (bCons (sLoc 2) bNil))) (sVal (sOps gList (bCons (sLoc 3) bNil)))))) (gSet 4) (sTst (sOps gGt (b2 (sVal (sGet2 (sLoc 2) (sVar 4) (sCst (.int 0)))) (sVal (sGet2 (sLoc 3) (sVar 4) (sCst (.int 0))))))) (sVar 4)
def b_L_at_most : SS := (sSeq (sAsg (gTup' 2 (gC (gSet 2) (gC (gSet 3) gN))) (sTup (sCons (sOps gDict (bCons (sLoc 0) bNil)) (sCons (sOps gDict (bCons (sLoc 1) bNil)) sNil))))
  (sRet (sOps gEq (b2 (sVal c0_L_at_most) (sVal (sLst sNil))))))
def m_L_at_most : List D → FR := runP 5 2 b_L_at_most
abbrev st_total : Stmt := top 15
theorem sc_total : FnScope ["counter", "key", "count"] ["counter"] (defScope st_total) := ⟨rfl, rfl, rfl, by decide +kernel, rfl, by decide +kernel, by decide +kernel⟩
def c0_total : SE := sComp [1, 2] (iAny (sVar 0)) (gTup' 2 (gC (gSet 1) (gC (gSet 2) gN))) tT1 (sVar 2)
def b_total : SS := (sSeq (sExpr (sCallS (m_looked) (sCons (sVar 0) sNil)))
  (sRet (sOps gSum (bCons (sVal c0_total) bNil))))
def m_total : List D → FR := runP 3 1 b_total
abbrev st_each : Stmt := top 18
theorem sc_each : GScope ["counter", "key", "count", "turn"] ["counter"] (defScope st_each) := ⟨rfl, rfl, rfl, by decide +kernel, rfl, by decide +kernel, by decide +kernel⟩
def t0_each : SGn := (gnS (gnY (sVar 1))
  gnN)
def l0_each : SGn := gnFor (iRng1' (sCons (sVar 2) sNil)) (gSet 3) t0_each
def t1_each : SGn := (gnS l0_each
  gnN)
def l1_each : SGn := gnFor (iAny (sVar 0)) (gTup' 2 (gC (gSet 1) (gC (gSet 2) gN))) t1_each
def b_each : SGn := (gnS (gnP (sExpr (sCallS (m_looked) (sCons (sVar 0) sNil))))
  (gnS l1_each
  gnN))
def m_each : List D → Option (List D) := runGn 4 1 b_each
abbrev st_ranked : Stmt := top 16
theorem sc_ranked : FnScope ["counter"] ["counter"] (defScope st_ranked) := ⟨rfl, rfl, rfl, by decide +kernel, rfl, by decide +kernel, by decide +kernel⟩
def k0_ranked : SE := (sOps gSub (b2 (sVal (sCst (.int 0))) (sVal (sOps gIdx (b2 (sLoc 0) (sVal (sCst (.int 1))))))))
def b_ranked : SS := (sRet (sSortK (sOps gList (bCons (sLoc 0) bNil)) k0_ranked))
def m_ranked : List D → FR := runP 1 1 b_ranked
abbrev st_most_common : Stmt := top 17
theorem sc_most_common : FnScope ["counter", "many"] ["counter", "many"] (defScope st_most_common) := ⟨rfl, rfl, rfl, by decide +kernel, rfl, by decide +kernel, by decide +kernel⟩
def b_most_common : SS := (sSeq (sExpr (sCallS (m_looked) (sCons (sVar 0) sNil)))
  (sSeq (sIfS (tOrS (tNotS (sTru (sVal (sCallP 1 (m_is_integer) (sCons (sVar 1) sNil))))) (sTst (sOps gLt (b2 (sLoc 1) (sVal (sCst (.int 0))))))) sNever sNx)
  (sRet (sSlice (sVal (sCallP 1 (m_ranked) (sCons (sVar 0) sNil))) sPn (sPe (sVar 1))))))
def m_most_common : List D → FR := runP 2 2 b_most_common
abbrev st_L_ranked : Stmt := top 28
theorem sc_L_ranked : FnScope ["_law_counter_here", "_law_many", "_law_found", "_law_pair", "_law_at", "_law_one"] ["_law_counter_here", "_law_many"] (defScope st_L_ranked) := ⟨rfl, rfl, rfl, by decide +kernel, rfl, by decide +kernel, by decide +kernel⟩
def c0_L_ranked : SE := sComp [5] (iAny (sVar 2)) (gSet 5) (sTst (sOps gGe (b2 (sVal (sOps gIdx (b2 (sLoc 5) (sVal (sCst (.int 1)))))) (sVal (sOps gIdx (b2 (sLoc 3) (sVal (sCst (.int 1))))))))) (sCst (.int 1))
def t0_L_ranked : SS := (sSeq (sAsg (gSet 4) (sLendL 2 (sOps gLen (bCons (sVal c0_L_ranked) bNil))))
  (sExpr (sMut 2 mInsert (sCons (sVar 4) (sCons (sVar 3) sNil)))))
def l0_L_ranked : SS := sFor (iAny (sVar 0)) (gSet 3) t0_L_ranked
def b_L_ranked : SS := (sSeq (sAsg (gOwn 2) (sLst sNil))
  (sSeq l0_L_ranked
  (sRet (sSlice (sLoc 2) sPn (sPe (sVar 1))))))
def m_L_ranked : List D → FR := runP 6 2 b_L_ranked
abbrev st_law : Stmt := top 29
theorem sc_law : FnScope ["_law_script", "_law_tape", "_law_turn", "_law_many", "_law_small", "_law_due", "_law_one", "_law_other", "_law_key_here", "_law_count"] ["_law_script"] (defScope st_law) := ⟨rfl, rfl, rfl, by decide +kernel, rfl, by decide +kernel, by decide +kernel⟩
def c0_law : SE := sComp [8] (iAny (sSlice (sVal (sLst (sCons (sCst (.str "q")) (sCons (sCst (.str "r")) sNil)))) sPn (sPe (sCallI 1 2 (m_L_draw) (sCons (sCst (.int 3)) sNil))))) (gSet 8) tT1 (sTup (sCons (sVar 8) (sCons (sCst (.int 0)) sNil)))
def c1_law : SE := sComp [8, 9] (iAny (sVar 6)) (gTup' 2 (gC (gSet 8) (gC (gSet 9) gN))) tT1 (sVar 9)
def t0_law : SS := (sIfS (tNotS (sTru (sVal (sCallP 2 (m_L_like 40) (sCons (sCallP 2 (m_most_common) (sCons (sVar 6) (sCons (sVar 3) sNil))) (sCons (sCallP 2 (m_L_ranked) (sCons (sVar 6) (sCons (sVar 3) sNil))) sNil)))))) (sRet (sCst (.bl false))) sNx)
def l0_law : SS := sFor (iAny (sLst (sCons (sCst (.int 0)) (sCons (sCst (.int 1)) (sCons (sCst (.int 2)) (sCons (sCst (.int 3)) (sCons (sOps gLen (bCons (sLoc 6) bNil)) (sCons (sCst (.int 99)) sNil)))))))) (gSet 3) t0_law
def c2_law : SE := sComp [8, 9] (iAny (sVar 6)) (gTup' 2 (gC (gSet 8) (gC (gSet 9) gN))) tT1 (sTup (sCons (sVar 8) (sCons (sOps gSub (b2 (sVal (sOps gMod (b2 (sVal (sOps gInt (bCons (sLoc 9) bNil))) (sVal (sCst (.int 7)))))) (sVal (sCst (.int 2))))) sNil)))
def t1_law : SS := (sAsg (gSet 5) (sOps gAdd (b2 (sLoc 5) (sVal (sOps gRepL (b2 (sVal (sLst (sCons (sVar 8) sNil))) (sVal (sOps gMax2 (bCons (sVal (sCst (.int 0))) (bCons (sVal (sOps gInt (bCons (sLoc 9) bNil))) bNil))))))))))
def l1_law : SS := sFor (iAny (sVar 4)) (gTup' 2 (gC (gSet 8) (gC (gSet 9) gN))) t1_law
def t2_law : SS := (sSeq (sPar 6 7 (sCons (sCallI 1 3 (m_L_counter) (sCons (sCst (.int 6)) (sCons (sCst (.bl false)) sNil))) (sCons (sCallI 1 3 (m_L_counter) (sCons (sCst (.int 6)) (sCons (sCst (.bl false)) sNil))) sNil)))
  (sSeq (sIfS (sTst (sOps gEq (b2 (sVal (sCallI 1 2 (m_L_draw) (sCons (sCst (.int 2)) sNil))) (sVal (sCst (.int 0)))))) (sAsg (gSet 7) (sOps gAdd (b2 (sVal (sRevE (sLoc 6))) (sVal (sOps gTuple (bCons (sVal c0_law) bNil)))))) sNx)
  (sSeq (sIfS (tNotS (sTru (sVal (sCallP 2 (m_L_like 40) (sCons (sCallP 2 (m_equal) (sCons (sVar 6) (sCons (sVar 7) sNil))) (sCons (sCallP 2 (m_L_equal) (sCons (sVar 6) (sCons (sVar 7) sNil))) sNil)))))) (sRet (sCst (.bl false))) sNx)
  (sSeq (sIfS (tNotS (sTru (sVal (sCallP 2 (m_L_like 40) (sCons (sCallP 2 (m_at_most) (sCons (sVar 6) (sCons (sVar 7) sNil))) (sCons (sCallP 2 (m_L_at_most) (sCons (sVar 6) (sCons (sVar 7) sNil))) sNil)))))) (sRet (sCst (.bl false))) sNx)
  (sSeq (sIfS (tNotS (sTru (sVal (sCallP 2 (m_L_like 40) (sCons (sCallP 1 (m_total) (sCons (sVar 6) sNil)) (sCons (sOps gSum (bCons (sVal c1_law) bNil)) sNil)))))) (sRet (sCst (.bl false))) sNx)
  (sSeq l0_law
  (sSeq (sAsg (gSet 4) (sOps gTuple (bCons (sVal c2_law) bNil)))
  (sSeq (sAsg (gOwn 5) (sLst sNil))
  (sSeq l1_law
  (sIfS (sTst (sOps gNe (b2 (sVal (sListG 1 m_each (sCons (sVar 4) sNil))) (sLoc 5)))) (sRet (sCst (.bl false))) sNx))))))))))
def l2_law : SS := sFor (iRng1' (sCons (sCst (.int 16)) sNil)) (gSet 2) t2_law
def b_law : SS := (sSeq (sAsg (gOwn 1) (sLst (sCons (sOps gList (bCons (sLoc 0) bNil)) (sCons (sCst (.int 0)) (sCons (sCst (.int 0)) sNil)))))
  (sSeq l2_law
  (sRet (sAnd (sOps gIs (b2 (sVal (sCallP 2 (m_equal) (sCons (sTup (sCons (sTup (sCons (sCst (.str "x")) (sCons (sCst (.int 0)) sNil))) sNil)) (sCons (sTup sNil) sNil)))) (sVal (sCst (.bl true))))) (sOps gIs (b2 (sVal (sCallP 2 (m_at_most) (sCons (sTup (sCons (sTup (sCons (sCst (.str "x")) (sCons (sCst (.int 1)) sNil))) sNil)) (sCons (sTup sNil) sNil)))) (sVal (sCst (.bl false)))))))))
def m_law : List D → FR := runP 10 1 b_law
structure Tx (K : PySem.W.Frag) (mg : Str → Option Value) : Prop where
  n_all : mg "all" = none
  n_bool : mg "bool" = none
  n_dict : mg "dict" = none
  n_int : mg "int" = none
  n_isinstance : mg "isinstance" = none
  n_len : mg "len" = none
  n_list : mg "list" = none
  n_max : mg "max" = none
  n_range : mg "range" = none
  n_sorted : mg "sorted" = none
  n_str : mg "str" = none
  n_sum : mg "sum" = none
  n_tuple : mg "tuple" = none
  c_LETTERS : ∃ u, mg "LETTERS" = some u ∧ RelV (.str "abcdefghijklmnopqrstuvwxyz") u
section
variable {P : Program} {w : World} {K : PySem.W.Frag} {mg : Str → Option Value} {base : Heap}
theorem w_L_draw (T : Tx K mg) (F : Fn K mg "_law_draw" st_L_draw ["_law_tape", "_law_many"]) : Cal P w K mg base "_law_draw" 1 (spI ⟨K, ⟨exA K, []⟩⟩ 2 m_L_draw) :=
  cal_I (exA K) F sc_L_draw (by decide) fun f cdv A outer s H E hr => by
    have hu := at_def (P := P) (w := w) (K := K) (mg := mg) (base := base) (f := f) (cdv := cdv) (A := A) (outer := outer) (s := s) (H := H) (E := E) sc_L_draw hr
    exact (d_scons (d_set hu rfl (by first | exact Or.inl rfl | exact Or.inr rfl) d_int)
      (d_scons (d_ifS (d_tcmp op_ltA psem_ord (d_val (d_idx hu (d_loc (pv 0)) (d_val d_int))) (d_loc (pv 1)) (nomark _)) (d_scons (d_set hu rfl (by first | exact Or.inl rfl | exact Or.inr rfl) d_int)
      (d_scons (d_ifS (d_tcmp op_gtA psem_ord (d_val (d_callB call_lenA psem_len rfl T.n_len (d_bcons (d_val (d_idx hu (d_loc (pv 0)) (d_val d_int))) d_bnil))) (d_val d_int) (nomark _)) (d_sone (d_set hu rfl (by first | exact Or.inl rfl | exact Or.inr rfl) (d_idx hu (d_val (d_idx hu (d_loc (pv 0)) (d_val d_int))) (d_val (d_mod (d_val (d_callTy call_int1 psem_int rfl T.n_int (d_bcons (d_val (d_idx hu (d_loc (pv 0)) (d_val d_int))) d_bnil))) (d_val (d_callB call_lenA psem_len rfl T.n_len (d_bcons (d_val (d_idx hu (d_loc (pv 0)) (d_val d_int))) d_bnil)))))))) d_snil)
      (d_scons (d_ifS (PW.pt (d_wor (d_tcmp op_geA psem_ord (d_val (d_idx hu (d_loc (pv 0)) (d_val d_int))) (d_val (d_callB call_lenA psem_len rfl T.n_len (d_bcons (d_val (d_idx hu (d_loc (pv 0)) (d_val d_int))) d_bnil))) (nomark _)) (d_wor1 (d_tcmp op_ltA psem_ord (d_loc (pv 4)) (d_val (d_pow (d_val d_int) (d_val d_int))) (nomark _))))) (d_scons (d_set hu rfl (by first | exact Or.inl rfl | exact Or.inr rfl) (d_mod (d_val (d_callTy call_int1 psem_int rfl T.n_int (d_bcons (d_val (d_add (d_loc (pv 4)) (d_val (d_mul (d_val d_int) (d_val (d_idx hu (d_loc (pv 0)) (d_val d_int))))))) d_bnil))) (d_loc (pv 2))))
      (d_scons (d_set hu rfl (by first | exact Or.inl rfl | exact Or.inr rfl) (d_mod (d_val (d_callTy call_int1 psem_int rfl T.n_int (d_bcons (d_val (d_add (d_val (d_add (d_val (d_mul (d_loc (pv 4)) (d_loc (pv 4)))) (d_val (d_mul (d_val d_int) (d_loc (pv 4)))))) (d_val d_int))) d_bnil))) (d_loc (pv 2))))
      (d_sone (d_set hu rfl (by first | exact Or.inl rfl | exact Or.inr rfl) (d_mod (d_val (d_callTy call_int1 psem_int rfl T.n_int (d_bcons (d_val (d_add (d_val (d_mul (d_loc (pv 4)) (d_loc (pv 4)))) (d_val d_int))) d_bnil))) (d_loc (pv 2))))))) d_snil)
      (d_scons (d_asg (d_add (d_val (d_idx hu (d_loc (pv 0)) (d_val d_int))) (d_val d_int)) (d_gPut hu (pv 0) (d_val d_int)))
      (d_sone (d_asg (d_var (pv 4)) (d_gPut hu (pv 0) (d_val d_int)))))))) d_snil)
      (d_scons (d_set hu rfl (by first | exact Or.inl rfl | exact Or.inr rfl) (d_mod (d_val (d_callTy call_int1 psem_int rfl T.n_int (d_bcons (d_val (d_idx hu (d_loc (pv 0)) (d_val d_int))) d_bnil))) (d_loc (pv 1))))
      (d_scons (d_asg (d_div (d_val (d_idx hu (d_loc (pv 0)) (d_val d_int))) (d_loc (pv 1))) (d_gPut hu (pv 0) (d_val d_int)))
      (d_sone (d_ret (d_var (pv 3))))))))
theorem w_L_of (T : Tx K mg) (F : Fn K mg "_law_of" st_L_of ["_law_tape", "_law_some"]) (C_L_draw : Cal P w K mg base "_law_draw" 1 (spI ⟨K, ⟨exA K, []⟩⟩ 2 (m_L_draw))) : Cal P w K mg base "_law_of" 2 (spI ⟨K, ⟨exA K, []⟩⟩ 2 m_L_of) :=
  cal_I (exA K) F sc_L_of (by decide) fun f cdv A outer s H E hr => by
    have hu := at_def (P := P) (w := w) (K := K) (mg := mg) (base := base) (f := f) (cdv := cdv) (A := A) (outer := outer) (s := s) (H := H) (E := E) sc_L_of hr
    exact (d_sone (d_ret (d_idx hu (d_loc (pv 1)) (d_val (d_callI hu C_L_draw (hr.mono (by omega)) rfl (pv 0) (d_cons (d_callB call_lenA psem_len rfl T.n_len (d_bcons (d_loc (pv 1)) d_bnil)) d_nil))))))
theorem w_L_key (T : Tx K mg) (F : Fn K mg "_law_key" st_L_key ["_law_tape"]) (C_L_of : Cal P w K mg base "_law_of" 2 (spI ⟨K, ⟨exA K, []⟩⟩ 2 (m_L_of))) : Cal P w K mg base "_law_key" 3 (spI ⟨K, ⟨exA K, []⟩⟩ 1 m_L_key) :=
  cal_I (exA K) F sc_L_key (by decide) fun f cdv A outer s H E hr => by
    have hu := at_def (P := P) (w := w) (K := K) (mg := mg) (base := base) (f := f) (cdv := cdv) (A := A) (outer := outer) (s := s) (H := H) (E := E) sc_L_key hr
    exact (d_sone (d_ret (d_callI hu C_L_of (hr.mono (by omega)) rfl (pv 0) (d_cons (d_fz (d_lstF (d_cons d_str (d_cons d_str (d_cons d_str (d_cons d_str (d_cons d_str (d_cons d_str d_nil)))))))) d_nil))))
theorem w_L_near (T : Tx K mg) (F : Fn K mg "_law_near" st_L_near ["_law_tape", "_law_wide"]) (C_L_draw : Cal P w K mg base "_law_draw" 1 (spI ⟨K, ⟨exA K, []⟩⟩ 2 (m_L_draw))) : Cal P w K mg base "_law_near" 2 (spI ⟨K, ⟨exA K, []⟩⟩ 2 m_L_near) :=
  cal_I (exA K) F sc_L_near (by decide) fun f cdv A outer s H E hr => by
    have hu := at_def (P := P) (w := w) (K := K) (mg := mg) (base := base) (f := f) (cdv := cdv) (A := A) (outer := outer) (s := s) (H := H) (E := E) sc_L_near hr
    exact (d_sone (d_ret (d_sub (d_val (d_callI hu C_L_draw (hr.mono (by omega)) rfl (pv 0) (d_cons (d_add (d_val (d_mul (d_val d_int) (d_loc (pv 1)))) (d_val d_int)) d_nil))) (d_loc (pv 1)))))
theorem w_L_counter (T : Tx K mg) (F : Fn K mg "_law_counter" st_L_counter ["_law_tape", "_law_limit", "_law_proper_so"]) (C_L_draw : Cal P w K mg base "_law_draw" 1 (spI ⟨K, ⟨exA K, []⟩⟩ 2 (m_L_draw))) (C_L_key : Cal P w K mg base "_law_key" 3 (spI ⟨K, ⟨exA K, []⟩⟩ 1 (m_L_key))) (C_L_near : Cal P w K mg base "_law_near" 2 (spI ⟨K, ⟨exA K, []⟩⟩ 2 (m_L_near))) : Cal P w K mg base "_law_counter" 4 (spI ⟨K, ⟨exA K, []⟩⟩ 3 m_L_counter) :=
  cal_I (exA K) F sc_L_counter (by decide) fun f cdv A outer s H E hr => by
    have hu := at_def (P := P) (w := w) (K := K) (mg := mg) (base := base) (f := f) (cdv := cdv) (A := A) (outer := outer) (s := s) (H := H) (E := E) sc_L_counter hr
    exact (d_scons (d_setF hu rfl (by first | exact Or.inl rfl | exact Or.inr rfl) d_dctF)
      (d_scons (d_for hu (passes_of rfl) (d_iRng1 rfl T.n_range (d_cons (d_callI hu C_L_draw (hr.mono (by omega)) rfl (pv 0) (d_cons (d_add (d_loc (pv 1)) (d_val d_int)) d_nil)) d_nil)) (d_gName hu.nd rfl (by first | exact Or.inl rfl | exact Or.inr rfl) (by first | exact Or.inl rfl | exact Or.inr rfl)) (d_scons (d_set hu rfl (by first | exact Or.inl rfl | exact Or.inr rfl) (d_idx hu (d_val (d_fz (d_lstF (d_cons d_int (d_cons d_int (d_cons (d_pow (d_val d_int) (d_val d_int)) d_nil)))))) (d_val (d_callI hu C_L_draw (hr.mono (by omega)) rfl (pv 0) (d_cons d_int d_nil)))))
      (d_sone (d_asg (d_if (d_tru (d_loc (pv 2))) (d_add (d_val d_int) (d_val (d_callI hu C_L_draw (hr.mono (by omega)) rfl (pv 0) (d_cons (d_var (pv 5)) d_nil)))) (d_callI hu C_L_near (hr.mono (by omega)) rfl (pv 0) (d_cons (d_var (pv 5)) d_nil))) (d_gPut hu (pv 3) (d_val (d_callI hu C_L_key (hr.mono (by omega)) rfl (pv 0) d_nil)))))))
      (d_sone (d_ret (d_tupItems hu.calm rfl T.n_tuple (d_loc (pv 3)))))))
theorem w_L_like (T : Tx K mg) (F : Fn K mg "_law_like" st_L_like ["_law_one", "_law_two"]) : ∀ n : Nat, Cal P w K mg base "_law_like" (0 + n + 1) (spP ⟨K, ⟨exA K, []⟩⟩ 2 (m_L_like n))
  | 0 => cal_P0 _ (exA K) F sc_L_like
  | n + 1 => by
    have ih := w_L_like T F n
    exact cal_P (exA K) F sc_L_like fun f cdv A outer s H E hr => by
      have hu := at_def (P := P) (w := w) (K := K) (mg := mg) (base := base) (f := f) (cdv := cdv) (A := A) (outer := outer) (s := s) (H := H) (E := E) sc_L_like hr
      exact (d_scons (d_ifS (d_tru (d_val (d_isi2 rfl T.n_isinstance (by decide) (by decide) rfl T.n_list rfl T.n_tuple (d_loc (pv 0))))) (d_scons (d_ifS (PW.pt (d_wor (d_tcmp (op_neD hu.un) psem_ne (d_val (d_isi1 rfl T.n_isinstance (by decide) rfl T.n_list (d_loc (pv 0)))) (d_val (d_isi1 rfl T.n_isinstance (by decide) rfl T.n_list (d_loc (pv 1)))) (nomark _)) (d_wor1 (d_tcmp (op_neD hu.un) psem_ne (d_val (d_isi1 rfl T.n_isinstance (by decide) rfl T.n_tuple (d_loc (pv 0)))) (d_val (d_isi1 rfl T.n_isinstance (by decide) rfl T.n_tuple (d_loc (pv 1)))) (nomark _))))) (d_sone (d_ret d_bl)) d_snil)
      (d_scons (d_ifS (d_tcmp (op_neD hu.un) psem_ne (d_val (d_callB call_lenA psem_len rfl T.n_len (d_bcons (d_loc (pv 0)) d_bnil))) (d_val (d_callB call_lenA psem_len rfl T.n_len (d_bcons (d_loc (pv 1)) d_bnil))) (nomark _)) (d_sone (d_ret d_bl)) d_snil)
      (d_sone (d_ret (d_cmp (op_eqD hu.un) psem_eq (d_val (d_fz (d_compF (own := [("_law_k", 2)]) hu (d_iRng1 rfl T.n_range (d_cons (d_callB call_lenA psem_len rfl T.n_len (d_bcons (d_loc (pv 0)) d_bnil)) d_nil)) (blkOk_by (N := ["_law_one", "_law_two", "_law_k"]) (sc := defScope st_L_like) (own := [("_law_k", 2)]) (by decide +kernel)) (fun _ _ _ _ _ => (d_gName (at_blk hu).nd rfl (by first | exact Or.inl rfl | exact Or.inr rfl) (by first | exact Or.inl rfl | exact Or.inr rfl))) (fun _ _ _ _ _ => (pts_one (d_tnot (d_tru (d_val (d_callP (at_blk hu) ih hr rfl (d_cons (d_idx (at_blk hu) (d_loc (pv 0)) (d_loc (pv 2))) (d_cons (d_idx (at_blk hu) (d_loc (pv 1)) (d_loc (pv 2))) d_nil)))))))) (fun _ _ _ _ _ => (d_var (pv 2))) (by decide)))) (d_val (d_fz (d_lstF d_nil))) (nomark _)))))) d_snil)
      (d_scons (d_ifS (d_tru (d_val (d_isi2 rfl T.n_isinstance (by decide) (by decide) rfl T.n_list rfl T.n_tuple (d_loc (pv 1))))) (d_sone (d_ret d_bl)) d_snil)
      (d_sone (d_ret (d_and (d_cmp (op_eqD hu.un) psem_eq (d_val (d_isi1 rfl T.n_isinstance (by decide) rfl T.n_bool (d_loc (pv 0)))) (d_val (d_isi1 rfl T.n_isinstance (by decide) rfl T.n_bool (d_loc (pv 1)))) (nomark _)) (d_one (d_cmp (op_eqD hu.un) psem_eq (d_loc (pv 0)) (d_loc (pv 1)) (nomark _))))))))
theorem w_is_name (T : Tx K mg) (F : Fn K mg "is_name" st_is_name ["thing"]) : Cal P w K mg base "is_name" 1 (spP ⟨K, ⟨exA K, []⟩⟩ 1 m_is_name) :=
  cal_P (exA K) F sc_is_name fun f cdv A outer s H E hr => by
    have hu := at_def (P := P) (w := w) (K := K) (mg := mg) (base := base) (f := f) (cdv := cdv) (A := A) (outer := outer) (s := s) (H := H) (E := E) sc_is_name hr
    exact (d_sone (d_ret (d_and (d_isi1 rfl T.n_isinstance (by decide) rfl T.n_str (d_loc (pv 0))) (d_and (d_chain op_leA op_leA psem_ord psem_ord (d_val d_int) (d_val (d_callB call_lenA psem_len rfl T.n_len (d_bcons (d_loc (pv 0)) d_bnil))) (d_val d_int)) (d_one (d_callB (cr_all hu.calm) psem_all rfl T.n_all (d_bcons (d_val (d_fz (d_compF (own := [("sign", 1)]) hu (d_iAny (d_var (pv 0))) (blkOk_by (N := ["thing", "sign"]) (sc := defScope st_is_name) (own := [("sign", 1)]) (by decide +kernel)) (fun _ _ _ _ _ => (d_gName (at_blk hu).nd rfl (by first | exact Or.inl rfl | exact Or.inr rfl) (by first | exact Or.inl rfl | exact Or.inr rfl))) (fun _ _ _ _ _ => pts_nilT) (fun _ _ _ _ _ => (d_cmp (op_inA (at_blk hu).un) psem_in (d_loc (pv 1)) (d_val (d_glob rfl T.c_LETTERS fun _ => .str _)) (by rfl))) (by decide)))) d_bnil)))))))
theorem w_is_integer (T : Tx K mg) (F : Fn K mg "is_integer" st_is_integer ["thing"]) : Cal P w K mg base "is_integer" 1 (spP ⟨K, ⟨exA K, []⟩⟩ 1 m_is_integer) :=
  cal_P (exA K) F sc_is_integer fun f cdv A outer s H E hr => by
    have hu := at_def (P := P) (w := w) (K := K) (mg := mg) (base := base) (f := f) (cdv := cdv) (A := A) (outer := outer) (s := s) (H := H) (E := E) sc_is_integer hr
    exact (d_sone (d_ret (d_and (d_isi1 rfl T.n_isinstance (by decide) rfl T.n_int (d_loc (pv 0))) (d_one (d_not (d_val (d_isi1 rfl T.n_isinstance (by decide) rfl T.n_bool (d_loc (pv 0)))))))))
theorem w_is_counter (T : Tx K mg) (F : Fn K mg "is_counter" st_is_counter ["thing"]) (C_is_name : Cal P w K mg base "is_name" 1 (spP ⟨K, ⟨exA K, []⟩⟩ 1 (m_is_name))) (C_is_integer : Cal P w K mg base "is_integer" 1 (spP ⟨K, ⟨exA K, []⟩⟩ 1 (m_is_integer))) : Cal P w K mg base "is_counter" 2 (spP ⟨K, ⟨exA K, []⟩⟩ 1 m_is_counter) :=
  cal_P (exA K) F sc_is_counter fun f cdv A outer s H E hr => by
    have hu := at_def (P := P) (w := w) (K := K) (mg := mg) (base := base) (f := f) (cdv := cdv) (A := A) (outer := outer) (s := s) (H := H) (E := E) sc_is_counter hr
    exact (d_scons (d_ifS (d_tnot (d_tru (d_val (d_isi1 rfl T.n_isinstance (by decide) rfl T.n_tuple (d_loc (pv 0)))))) (d_sone (d_ret d_bl)) d_snil)
      (d_scons (d_for hu (passes_of rfl) (d_iAny (d_var (pv 0))) (d_gName hu.nd rfl (by first | exact Or.inl rfl | exact Or.inr rfl) (by first | exact Or.inl rfl | exact Or.inr rfl)) (d_sone (d_ifS (PW.pt (d_wor (d_tnot (d_tru (d_val (d_isi1 rfl T.n_isinstance (by decide) rfl T.n_tuple (d_loc (pv 1)))))) (d_wor (d_tcmp (op_neD hu.un) psem_ne (d_val (d_callB call_lenA psem_len rfl T.n_len (d_bcons (d_loc (pv 1)) d_bnil))) (d_val d_int) (nomark _)) (d_wor (d_tnot (d_tru (d_val (d_callP hu C_is_name (hr.mono (by omega)) rfl (d_cons (d_idx hu (d_loc (pv 1)) (d_val d_int)) d_nil))))) (d_wor1 (d_tnot (d_tru (d_val (d_callP hu C_is_integer (hr.mono (by omega)) rfl (d_cons (d_idx hu (d_loc (pv 1)) (d_val d_int)) d_nil)))))))))) (d_sone (d_ret d_bl)) d_snil)))
      (d_sone (d_ret (d_cmp (op_eqD hu.un) psem_eq (d_val (d_callB call_lenA psem_len rfl T.n_len (d_bcons (d_val (d_fz (d_dcompF (own := [("part", 1)]) hu (d_iAny (d_var (pv 0))) (blkOk_by (N := ["thing", "part"]) (sc := defScope st_is_counter) (own := [("part", 1)]) (by decide +kernel)) (fun _ _ _ _ _ => (d_gName (at_blk hu).nd rfl (by first | exact Or.inl rfl | exact Or.inr rfl) (by first | exact Or.inl rfl | exact Or.inr rfl))) (fun _ _ _ _ _ => pts_nilT) (fun _ _ _ _ _ => (d_idx (at_blk hu) (d_loc (pv 1)) (d_val d_int))) (fun _ _ _ _ _ => d_bl) (by decide)))) d_bnil))) (d_val (d_callB call_lenA psem_len rfl T.n_len (d_bcons (d_loc (pv 0)) d_bnil))) (nomark _))))))
theorem w_looked (T : Tx K mg) (F : FnS K mg "looked" st_looked "counters") (C_is_counter : Cal P w K mg base "is_counter" 2 (spP ⟨K, ⟨exA K, []⟩⟩ 1 (m_is_counter))) : CalS P w K mg base "looked" 3 (spS ⟨K, ⟨exA K, []⟩⟩ m_looked) :=
  cal_S (exA K) F sc_looked fun f cdv A outer s H E hr => by
    have hu := at_def (P := P) (w := w) (K := K) (mg := mg) (base := base) (f := f) (cdv := cdv) (A := A) (outer := outer) (s := s) (H := H) (E := E) sc_looked hr
    exact (d_sone (d_for hu (passes_of rfl) (d_iAny (d_var (pv 0))) (d_gName hu.nd rfl (by first | exact Or.inl rfl | exact Or.inr rfl) (by first | exact Or.inl rfl | exact Or.inr rfl)) (d_sone (d_ifS (d_tnot (d_tru (d_val (d_callP hu C_is_counter (hr.mono (by omega)) rfl (d_cons (d_var (pv 1)) d_nil))))) (d_sone d_never) d_snil))))
theorem w_keys_of (T : Tx K mg) (F : FnS K mg "keys_of" st_keys_of "counters") : CalS P w K mg base "keys_of" 1 (spS ⟨K, ⟨exA K, []⟩⟩ m_keys_of) :=
  cal_S (exA K) F sc_keys_of fun f cdv A outer s H E hr => by
    have hu := at_def (P := P) (w := w) (K := K) (mg := mg) (base := base) (f := f) (cdv := cdv) (A := A) (outer := outer) (s := s) (H := H) (E := E) sc_keys_of hr
    exact (d_sone (d_ret (d_fz (d_callTyF (call_listA hu.calm) fsem_list rfl T.n_list (d_bcons (d_val (d_fz (d_dcomp2F (own := [("counter", 1), ("key", 2), ("count", 3)]) (vs1 := [2, 3]) hu (d_iAny (d_var (pv 0))) (blkOk_by (N := ["counters", "counter", "key", "count"]) (sc := defScope st_keys_of) (own := [("counter", 1), ("key", 2), ("count", 3)]) (by decide +kernel)) (fun _ _ _ _ _ => (d_gName (at_blk hu).nd rfl (by first | exact Or.inl rfl | exact Or.inr rfl) (by first | exact Or.inl rfl | exact Or.inr rfl))) (fun _ _ _ _ _ => (d_iAny (d_var (pv 1)))) (fun _ _ _ _ _ => (d_gTup (at_blk hu).calm (d_gC (d_gName (at_blk hu).nd rfl (by first | exact Or.inl rfl | exact Or.inr rfl) (by first | exact Or.inl rfl | exact Or.inr rfl)) (d_gC (d_gName (at_blk hu).nd rfl (by first | exact Or.inl rfl | exact Or.inr rfl) (by first | exact Or.inl rfl | exact Or.inr rfl)) d_gN)))) (fun _ _ _ _ _ => (d_var (pv 2))) (fun _ _ _ _ _ => d_bl) (by decide) (by decide) (by decide)))) d_bnil)))))
theorem w_all_equal (T : Tx K mg) (F : Fn K mg "all_equal" st_all_equal ["one", "other"]) (C_keys_of : CalS P w K mg base "keys_of" 1 (spS ⟨K, ⟨exA K, []⟩⟩ (m_keys_of))) : Cal P w K mg base "all_equal" 2 (spP ⟨K, ⟨exA K, []⟩⟩ 2 m_all_equal) :=
  cal_P (exA K) F sc_all_equal fun f cdv A outer s H E hr => by
    have hu := at_def (P := P) (w := w) (K := K) (mg := mg) (base := base) (f := f) (cdv := cdv) (A := A) (outer := outer) (s := s) (H := H) (E := E) sc_all_equal hr
    exact (d_scons (d_asg (d_tup (d_cons (d_fz (d_callTyF (call_dictT hu.calm) fsem_dict rfl T.n_dict (d_bcons (d_loc (pv 0)) d_bnil))) (d_cons (d_fz (d_callTyF (call_dictT hu.calm) fsem_dict rfl T.n_dict (d_bcons (d_loc (pv 1)) d_bnil))) d_nil))) (d_gTup hu.calm (d_gC (d_gName hu.nd rfl (by first | exact Or.inl rfl | exact Or.inr rfl) (by first | exact Or.inl rfl | exact Or.inr rfl)) (d_gC (d_gName hu.nd rfl (by first | exact Or.inl rfl | exact Or.inr rfl) (by first | exact Or.inl rfl | exact Or.inr rfl)) d_gN))))
      (d_sone (d_ret (d_callB (cr_all hu.calm) psem_all rfl T.n_all (d_bcons (d_val (d_fz (d_compF (own := [("key", 4)]) hu (d_iAny (d_callS hu C_keys_of (hr.mono (by omega)) rfl (d_cons (d_var (pv 0)) (d_cons (d_var (pv 1)) d_nil)))) (blkOk_by (N := ["one", "other", "counts", "others", "key"]) (sc := defScope st_all_equal) (own := [("key", 4)]) (by decide +kernel)) (fun _ _ _ _ _ => (d_gName (at_blk hu).nd rfl (by first | exact Or.inl rfl | exact Or.inr rfl) (by first | exact Or.inl rfl | exact Or.inr rfl))) (fun _ _ _ _ _ => pts_nilT) (fun _ _ _ _ _ => (d_cmp (op_eqD (at_blk hu).un) psem_eq (d_val (d_get2 (at_blk hu) (d_loc (pv 2)) (d_var (pv 4)) d_int)) (d_val (d_get2 (at_blk hu) (d_loc (pv 3)) (d_var (pv 4)) d_int)) (nomark _))) (by decide)))) d_bnil)))))
theorem w_equal (T : Tx K mg) (F : Fn K mg "equal" st_equal ["one", "other"]) (C_looked : CalS P w K mg base "looked" 3 (spS ⟨K, ⟨exA K, []⟩⟩ (m_looked))) (C_all_equal : Cal P w K mg base "all_equal" 2 (spP ⟨K, ⟨exA K, []⟩⟩ 2 (m_all_equal))) : Cal P w K mg base "equal" 4 (spP ⟨K, ⟨exA K, []⟩⟩ 2 m_equal) :=
  cal_P (exA K) F sc_equal fun f cdv A outer s H E hr => by
    have hu := at_def (P := P) (w := w) (K := K) (mg := mg) (base := base) (f := f) (cdv := cdv) (A := A) (outer := outer) (s := s) (H := H) (E := E) sc_equal hr
    exact (d_scons (d_expr (d_callS hu C_looked (hr.mono (by omega)) rfl (d_cons (d_var (pv 0)) (d_cons (d_var (pv 1)) d_nil))))
      (d_sone (d_ret (d_callP hu C_all_equal (hr.mono (by omega)) rfl (d_cons (d_var (pv 0)) (d_cons (d_var (pv 1)) d_nil))))))
theorem w_all_at_most (T : Tx K mg) (F : Fn K mg "all_at_most" st_all_at_most ["one", "other"]) (C_keys_of : CalS P w K mg base "keys_of" 1 (spS ⟨K, ⟨exA K, []⟩⟩ (m_keys_of))) : Cal P w K mg base "all_at_most" 2 (spP ⟨K, ⟨exA K, []⟩⟩ 2 m_all_at_most) :=
  cal_P (exA K) F sc_all_at_most fun f cdv A outer s H E hr => by
    have hu := at_def (P := P) (w := w) (K := K) (mg := mg) (base := base) (f := f) (cdv := cdv) (A := A) (outer := outer) (s := s) (H := H) (E := E) sc_all_at_most hr
    exact (d_scons (d_asg (d_tup (d_cons (d_fz (d_callTyF (call_dictT hu.calm) fsem_dict rfl T.n_dict (d_bcons (d_loc (pv 0)) d_bnil))) (d_cons (d_fz (d_callTyF (call_dictT hu.calm) fsem_dict rfl T.n_dict (d_bcons (d_loc (pv 1)) d_bnil))) d_nil))) (d_gTup hu.calm (d_gC (d_gName hu.nd rfl (by first | exact Or.inl rfl | exact Or.inr rfl) (by first | exact Or.inl rfl | exact Or.inr rfl)) (d_gC (d_gName hu.nd rfl (by first | exact Or.inl rfl | exact Or.inr rfl) (by first | exact Or.inl rfl | exact Or.inr rfl)) d_gN))))
      (d_sone (d_ret (d_callB (cr_all hu.calm) psem_all rfl T.n_all (d_bcons (d_val (d_fz (d_compF (own := [("key", 4)]) hu (d_iAny (d_callS hu C_keys_of (hr.mono (by omega)) rfl (d_cons (d_var (pv 0)) (d_cons (d_var (pv 1)) d_nil)))) (blkOk_by (N := ["one", "other", "counts", "others", "key"]) (sc := defScope st_all_at_most) (own := [("key", 4)]) (by decide +kernel)) (fun _ _ _ _ _ => (d_gName (at_blk hu).nd rfl (by first | exact Or.inl rfl | exact Or.inr rfl) (by first | exact Or.inl rfl | exact Or.inr rfl))) (fun _ _ _ _ _ => pts_nilT) (fun _ _ _ _ _ => (d_cmp op_leA psem_ord (d_val (d_get2 (at_blk hu) (d_loc (pv 2)) (d_var (pv 4)) d_int)) (d_val (d_get2 (at_blk hu) (d_loc (pv 3)) (d_var (pv 4)) d_int)) (nomark _))) (by decide)))) d_bnil)))))
theorem w_at_most (T : Tx K mg) (F : Fn K mg "at_most" st_at_most ["one", "other"]) (C_looked : CalS P w K mg base "looked" 3 (spS ⟨K, ⟨exA K, []⟩⟩ (m_looked))) (C_all_at_most : Cal P w K mg base "all_at_most" 2 (spP ⟨K, ⟨exA K, []⟩⟩ 2 (m_all_at_most))) : Cal P w K mg base "at_most" 4 (spP ⟨K, ⟨exA K, []⟩⟩ 2 m_at_most) :=
  cal_P (exA K) F sc_at_most fun f cdv A outer s H E hr => by
    have hu := at_def (P := P) (w := w) (K := K) (mg := mg) (base := base) (f := f) (cdv := cdv) (A := A) (outer := outer) (s := s) (H := H) (E := E) sc_at_most hr
    exact (d_scons (d_expr (d_callS hu C_looked (hr.mono (by omega)) rfl (d_cons (d_var (pv 0)) (d_cons (d_var (pv 1)) d_nil))))
      (d_sone (d_ret (d_callP hu C_all_at_most (hr.mono (by omega)) rfl (d_cons (d_var (pv 0)) (d_cons (d_var (pv 1)) d_nil))))))
theorem w_L_equal (T : Tx K mg) (F : Fn K mg "_law_equal" st_L_equal ["_law_one", "_law_other"]) : Cal P w K mg base "_law_equal" 1 (spP ⟨K, ⟨exA K, []⟩⟩ 2 m_L_equal) :=
  cal_P (exA K) F sc_L_equal fun f cdv A outer s H E hr => by
    have hu := at_def (P := P) (w := w) (K := K) (mg := mg) (base := base) (f := f) (cdv := cdv) (A := A) (outer := outer) (s := s) (H := H) (E := E) sc_L_equal hr
    exact (d_scons (d_asg (d_tup (d_cons (d_fz (d_callTyF (call_dictT hu.calm) fsem_dict rfl T.n_dict (d_bcons (d_loc (pv 0)) d_bnil))) (d_cons (d_fz (d_callTyF (call_dictT hu.calm) fsem_dict rfl T.n_dict (d_bcons (d_loc (pv 1)) d_bnil))) d_nil))) (d_gTup hu.calm (d_gC (d_gName hu.nd rfl (by first | exact Or.inl rfl | exact Or.inr rfl) (by first | exact Or.inl rfl | exact Or.inr rfl)) (d_gC (d_gName hu.nd rfl (by first | exact Or.inl rfl | exact Or.inr rfl) (by first | exact Or.inl rfl | exact Or.inr rfl)) d_gN))))
      (d_scons (d_set hu rfl (by first | exact Or.inl rfl | exact Or.inr rfl) (d_add (d_val (d_fz (d_callTyF (call_listA hu.calm) fsem_list rfl T.n_list (d_bcons (d_loc (pv 3)) d_bnil)))) (d_val (d_fz (d_callTyF (call_listA hu.calm) fsem_list rfl T.n_list (d_bcons (d_loc (pv 4)) d_bnil))))))
      (d_sone (d_ret (d_cmp (op_eqD hu.un) psem_eq (d_val (d_fz (d_compF (own := [("_law_key_here", 5)]) hu (d_iAny (d_var (pv 2))) (blkOk_by (N := ["_law_one", "_law_other", "_law_keys", "_law_first", "_law_second", "_law_key_here"]) (sc := defScope st_L_equal) (own := [("_law_key_here", 5)]) (by decide +kernel)) (fun _ _ _ _ _ => (d_gName (at_blk hu).nd rfl (by first | exact Or.inl rfl | exact Or.inr rfl) (by first | exact Or.inl rfl | exact Or.inr rfl))) (fun _ _ _ _ _ => (pts_one (d_tcmp (op_neD (at_blk hu).un) psem_ne (d_val (d_get2 (at_blk hu) (d_loc (pv 3)) (d_var (pv 5)) d_int)) (d_val (d_get2 (at_blk hu) (d_loc (pv 4)) (d_var (pv 5)) d_int)) (nomark _)))) (fun _ _ _ _ _ => (d_var (pv 5))) (by decide)))) (d_val (d_fz (d_lstF d_nil))) (nomark _))))))
theorem w_L_at_most (T : Tx K mg) (F : Fn K mg "_law_at_most" st_L_at_most ["_law_one", "_law_other"]) : Cal P w K mg base "_law_at_most" 1 (spP ⟨K, ⟨exA K, []⟩⟩ 2 m_L_at_most) :=
  cal_P (exA K) F sc_L_at_most fun f cdv A outer s H E hr => by
    have hu := at_def (P := P) (w := w) (K := K) (mg := mg) (base := base) (f := f) (cdv := cdv) (A := A) (outer := outer) (s := s) (H := H) (E := E) sc_L_at_most hr
    exact (d_scons (d_asg (d_tup (d_cons (d_fz (d_callTyF (call_dictT hu.calm) fsem_dict rfl T.n_dict (d_bcons (d_loc (pv 0)) d_bnil))) (d_cons (d_fz (d_callTyF (call_dictT hu.calm) fsem_dict rfl T.n_dict (d_bcons (d_loc (pv 1)) d_bnil))) d_nil))) (d_gTup hu.calm (d_gC (d_gName hu.nd rfl (by first | exact Or.inl rfl | exact Or.inr rfl) (by first | exact Or.inl rfl | exact Or.inr rfl)) (d_gC (d_gName hu.nd rfl (by first | exact Or.inl rfl | exact Or.inr rfl) (by first | exact Or.inl rfl | exact Or.inr rfl)) d_gN))))
      (d_sone (d_ret (d_cmp (op_eqD hu.un) psem_eq (d_val (d_fz (d_compF (own := [("_law_key_here", 4)]) hu (d_iAny (d_add (d_val (d_fz (d_callTyF (call_listA hu.calm) fsem_list rfl T.n_list (d_bcons (d_loc (pv 2)) d_bnil)))) (d_val (d_fz (d_callTyF (call_listA hu.calm) fsem_list rfl T.n_list (d_bcons (d_loc (pv 3)) d_bnil)))))) (blkOk_by (N := ["_law_one", "_law_other", "_law_first", "_law_second", "_law_key_here"]) (sc := defScope st_L_at_most) (own := [("_law_key_here", 4)]) (by decide +kernel)) (fun _ _ _ _ _ => (d_gName (at_blk hu).nd rfl (by first | exact Or.inl rfl | exact Or.inr rfl) (by first | exact Or.inl rfl | exact Or.inr rfl))) (fun _ _ _ _ _ => (pts_one (d_tcmp op_gtA psem_ord (d_val (d_get2 (at_blk hu) (d_loc (pv 2)) (d_var (pv 4)) d_int)) (d_val (d_get2 (at_blk hu) (d_loc (pv 3)) (d_var (pv 4)) d_int)) (nomark _)))) (fun _ _ _ _ _ => (d_var (pv 4))) (by decide)))) (d_val (d_fz (d_lstF d_nil))) (nomark _)))))
theorem w_total (T : Tx K mg) (F : Fn K mg "total" st_total ["counter"]) (C_looked : CalS P w K mg base "looked" 3 (spS ⟨K, ⟨exA K, []⟩⟩ (m_looked))) : Cal P w K mg base "total" 4 (spP ⟨K, ⟨exA K, []⟩⟩ 1 m_total) :=
  cal_P (exA K) F sc_total fun f cdv A outer s H E hr => by
    have hu := at_def (P := P) (w := w) (K := K) (mg := mg) (base := base) (f := f) (cdv := cdv) (A := A) (outer := outer) (s := s) (H := H) (E := E) sc_total hr
    exact (d_scons (d_expr (d_callS hu C_looked (hr.mono (by omega)) rfl (d_cons (d_var (pv 0)) d_nil)))
      (d_sone (d_ret (d_callB (cr_sum hu.calm) psem_sum rfl T.n_sum (d_bcons (d_val (d_fz (d_compF (own := [("key", 1), ("count", 2)]) hu (d_iAny (d_var (pv 0))) (blkOk_by (N := ["counter", "key", "count"]) (sc := defScope st_total) (own := [("key", 1), ("count", 2)]) (by decide +kernel)) (fun _ _ _ _ _ => (d_gTup (at_blk hu).calm (d_gC (d_gName (at_blk hu).nd rfl (by first | exact Or.inl rfl | exact Or.inr rfl) (by first | exact Or.inl rfl | exact Or.inr rfl)) (d_gC (d_gName (at_blk hu).nd rfl (by first | exact Or.inl rfl | exact Or.inr rfl) (by first | exact Or.inl rfl | exact Or.inr rfl)) d_gN)))) (fun _ _ _ _ _ => pts_nilT) (fun _ _ _ _ _ => (d_var (pv 2))) (by decide)))) d_bnil)))))
theorem w_each (T : Tx K mg) (F : Fn K mg "each" st_each ["counter"]) (C_looked : CalS P w K mg base "looked" 3 (spS ⟨K, ⟨exA K, []⟩⟩ (m_looked))) : CalG P w K mg base "each" 4 (spG ⟨K, ⟨exA K, []⟩⟩ 1 m_each) :=
  cal_G (exA K) F sc_each fun f cdv A outer s H E pn hr => by
    have hu := at_gen (P := P) (w := w) (K := K) (mg := mg) (base := base) (f := f) (cdv := cdv) (A := A) (outer := outer) (s := s) (H := H) (E := E) (pn := pn) sc_each hr
    exact (dg_cons (dg_plain (d_expr (d_callS hu C_looked (hr.mono (by omega)) rfl (d_cons (d_var (pv 0)) d_nil))))
      (dg_cons (dg_for hu owns_gcx (d_iAny (d_var (pv 0))) (d_gTup hu.calm (d_gC (d_gName hu.nd rfl (by first | exact Or.inl rfl | exact Or.inr rfl) (by first | exact Or.inl rfl | exact Or.inr rfl)) (d_gC (d_gName hu.nd rfl (by first | exact Or.inl rfl | exact Or.inr rfl) (by first | exact Or.inl rfl | exact Or.inr rfl)) d_gN))) (dg_cons (dg_for hu owns_gcx (d_iRng1 rfl T.n_range (d_cons (d_var (pv 2)) d_nil)) (d_gName hu.nd rfl (by first | exact Or.inl rfl | exact Or.inr rfl) (by first | exact Or.inl rfl | exact Or.inr rfl)) (dg_cons (dg_yield (d_var (pv 1)))
      dg_nil))
      dg_nil))
      dg_nil))
theorem w_ranked (T : Tx K mg) {f0 cc PP : Addr} {fd0 : FuncData} (F0 : Fun K "ranked" "ranked" st_ranked f0 fd0) (hc0 : fd0.code = .ref cc) (hm0 : mg "ranked" = some (.ref f0)) (hb0 : Binds K fd0 ["counter"] []) (TB : LamX.TabB base mg cc PP) : Cal P w K mg base "ranked" 4 (spPT ⟨K, ⟨exA K, [(PP, lamQ "ranked" st_ranked)]⟩⟩ 1 m_ranked) :=
  ⟨f0, fd0, _, okT (exA K) [(PP, lamQ "ranked" st_ranked)] F0 sc_ranked fun cdv A outer s H E hcd hr => by
    obtain rfl : cdv = .ref cc := hcd.symm.trans hc0
    have hu := at_def (P := P) (w := w) (K := K) (mg := mg) (base := base) (f := f0) (cdv := .ref cc) (A := A) (outer := outer) (s := s) (H := H) (E := E) sc_ranked hr
    exact (d_sone (d_ret (d_fz (d_sortK (k := 0) (a := "part") hu TB rfl (hr.mono (by omega)) ⟨rfl, rfl⟩ ⟨rfl, rfl, rfl, by decide +kernel, rfl, by decide +kernel, by decide +kernel⟩ rfl rfl (fun _ _ _ _ _ => rfl) (fun A outer s H f c hr2 => by have hu2 : At (cxOf (L2.CX P w) P w K mg base ["part"] _ _ f (.ref c) A outer s H (fun _ _ _ => False)) W0 := ⟨rfl, List.pairwise_singleton _ _, hr2.units, takes0N⟩; exact (d_sub (d_val d_int) (d_val (d_idx hu2 (d_loc (pv 0)) (d_val d_int))))) rfl T.n_sorted (by decide +kernel) (d_cons (d_fz (d_callTyF (call_listA hu.calm) fsem_list rfl T.n_list (d_bcons (d_loc (pv 0)) d_bnil))) d_nil))))), hm0, F0.kp, hb0⟩
theorem w_most_common (T : Tx K mg) {PP : Addr} (F : Fn K mg "most_common" st_most_common ["counter", "many"]) (C_looked : CalS P w K mg base "looked" 3 (spS ⟨K, ⟨exA K, []⟩⟩ (m_looked))) (C_ranked : Cal P w K mg base "ranked" 4 (spPT ⟨K, ⟨exA K, [(PP, lamQ "ranked" st_ranked)]⟩⟩ 1 (m_ranked))) (C_is_integer : Cal P w K mg base "is_integer" 1 (spP ⟨K, ⟨exA K, []⟩⟩ 1 (m_is_integer))) : Cal P w K mg base "most_common" 5 (spPT ⟨K, ⟨exA K, [(PP, lamQ "ranked" st_ranked)]⟩⟩ 2 m_most_common) :=
  cal_PT (exA K) [(PP, lamQ "ranked" st_ranked)] F sc_most_common fun f fd cdv A outer s H E _ _ _ hr => by
    have hu := at_def (P := P) (w := w) (K := K) (mg := mg) (base := base) (f := f) (cdv := cdv) (A := A) (outer := outer) (s := s) (H := H) (E := E) sc_most_common hr
    exact (d_scons (d_expr (d_callS hu C_looked (hr.mono (by omega)) rfl (d_cons (d_var (pv 0)) d_nil)))
      (d_scons (d_ifS (PW.pt (d_wor (d_tnot (d_tru (d_val (d_callP hu C_is_integer (hr.mono (by omega)) rfl (d_cons (d_var (pv 1)) d_nil))))) (d_wor1 (d_tcmp op_ltA psem_ord (d_loc (pv 1)) (d_val d_int) (nomark _))))) (d_sone d_never) d_snil)
      (d_sone (d_ret (d_slice (d_val (d_callPT hu C_ranked (hr.mono (by omega)) rfl (d_cons (d_var (pv 0)) d_nil))) d_pn (d_pe (d_var (pv 1))))))))
theorem w_L_ranked (T : Tx K mg) (F : Fn K mg "_law_ranked" st_L_ranked ["_law_counter_here", "_law_many"]) : Cal P w K mg base "_law_ranked" 1 (spP ⟨K, ⟨exA K, []⟩⟩ 2 m_L_ranked) :=
  cal_P (exA K) F sc_L_ranked fun f cdv A outer s H E hr => by
    have hu := at_def (P := P) (w := w) (K := K) (mg := mg) (base := base) (f := f) (cdv := cdv) (A := A) (outer := outer) (s := s) (H := H) (E := E) sc_L_ranked hr
    exact (d_scons (d_setF hu rfl (by first | exact Or.inl rfl | exact Or.inr rfl) (d_lstF d_nil))
      (d_scons (d_for hu (passes_of rfl) (d_iAny (d_var (pv 0))) (d_gName hu.nd rfl (by first | exact Or.inl rfl | exact Or.inr rfl) (by first | exact Or.inl rfl | exact Or.inr rfl)) (d_scons (d_set hu rfl (by first | exact Or.inl rfl | exact Or.inr rfl) (d_lendL (i := 2) (d_callB call_lenA psem_len rfl T.n_len (d_bcons (d_val (d_fz (d_compF (own := [("_law_one", 5)]) hu (d_iAny (d_var (pv 2))) (blkOk_by (N := ["_law_counter_here", "_law_many", "_law_found", "_law_pair", "_law_at", "_law_one"]) (sc := defScope st_L_ranked) (own := [("_law_one", 5)]) (by decide +kernel)) (fun _ _ _ _ _ => (d_gName (at_blk hu).nd rfl (by first | exact Or.inl rfl | exact Or.inr rfl) (by first | exact Or.inl rfl | exact Or.inr rfl))) (fun _ _ _ _ _ => (pts_one (d_tcmp op_geA psem_ord (d_val (d_idx (at_blk hu) (d_loc (pv 5)) (d_val d_int))) (d_val (d_idx (at_blk hu) (d_loc (pv 3)) (d_val d_int))) (nomark _)))) (fun _ _ _ _ _ => d_int) (by decide)))) d_bnil))))
      (d_sone (d_expr (d_mut PySem.F.slot_list_insert PySem.F.type_list_insert mt_insert lmut_insert (pv 2) (d_cons (d_var (pv 4)) (d_cons (d_var (pv 3)) d_nil)))))))
      (d_sone (d_ret (d_slice (d_loc (pv 2)) d_pn (d_pe (d_var (pv 1))))))))
theorem w_law (T : Tx K mg) {fa PP : Addr} {fd : FuncData} (F : Fun K "law" "law" st_law fa fd) (C_L_counter : Cal P w K mg base "_law_counter" 4 (spI ⟨K, ⟨exA K, []⟩⟩ 3 (m_L_counter))) (C_L_draw : Cal P w K mg base "_law_draw" 1 (spI ⟨K, ⟨exA K, []⟩⟩ 2 (m_L_draw))) (C_L_like : Cal P w K mg base "_law_like" 41 (spP ⟨K, ⟨exA K, []⟩⟩ 2 (m_L_like 40))) (C_equal : Cal P w K mg base "equal" 4 (spP ⟨K, ⟨exA K, []⟩⟩ 2 (m_equal))) (C_at_most : Cal P w K mg base "at_most" 4 (spP ⟨K, ⟨exA K, []⟩⟩ 2 (m_at_most))) (C_L_equal : Cal P w K mg base "_law_equal" 1 (spP ⟨K, ⟨exA K, []⟩⟩ 2 (m_L_equal))) (C_L_at_most : Cal P w K mg base "_law_at_most" 1 (spP ⟨K, ⟨exA K, []⟩⟩ 2 (m_L_at_most))) (C_total : Cal P w K mg base "total" 4 (spP ⟨K, ⟨exA K, []⟩⟩ 1 (m_total))) (C_each : CalG P w K mg base "each" 4 (spG ⟨K, ⟨exA K, []⟩⟩ 1 (m_each))) (C_most_common : Cal P w K mg base "most_common" 5 (spPT ⟨K, ⟨exA K, [(PP, lamQ "ranked" st_ranked)]⟩⟩ 2 (m_most_common))) (C_L_ranked : Cal P w K mg base "_law_ranked" 1 (spP ⟨K, ⟨exA K, []⟩⟩ 2 (m_L_ranked))) : FnOk P w K mg base (L2N.CX P w) 42 fa fd ["_law_script"] (spT K PP m_law) :=
  law_T2 (q0 := lamQ "ranked" st_ranked) (ea := exA K) F sc_law fun cdv A outer s H E hr => by
    have hu := at_def (P := P) (w := w) (K := K) (mg := mg) (base := base) (f := fa) (cdv := cdv) (A := A) (outer := outer) (s := s) (H := H) (E := E) sc_law hr
    exact (d_scons (d_setF hu rfl (by first | exact Or.inl rfl | exact Or.inr rfl) (d_lstF (d_cons (d_fz (d_callTyF (call_listA hu.calm) fsem_list rfl T.n_list (d_bcons (d_loc (pv 0)) d_bnil))) (d_cons d_int (d_cons d_int d_nil)))))
      (d_scons (d_for hu (passes_of rfl) (d_iRng1 rfl T.n_range (d_cons d_int d_nil)) (d_gName hu.nd rfl (by first | exact Or.inl rfl | exact Or.inr rfl) (by first | exact Or.inl rfl | exact Or.inr rfl)) (d_scons (d_par hu rfl rfl (by decide) rfl rfl (d_cons (d_callI hu C_L_counter (hr.mono (by omega)) rfl (pv 1) (d_cons d_int (d_cons d_bl d_nil))) (d_cons (d_callI hu C_L_counter (hr.mono (by omega)) rfl (pv 1) (d_cons d_int (d_cons d_bl d_nil))) d_nil)) rfl)
      (d_scons (d_ifS (d_tcmp (op_eqD hu.un) psem_eq (d_val (d_callI hu C_L_draw (hr.mono (by omega)) rfl (pv 1) (d_cons d_int d_nil))) (d_val d_int) (nomark _)) (d_sone (d_set hu rfl (by first | exact Or.inl rfl | exact Or.inr rfl) (d_add (d_val (d_revE (d_loc (pv 6)))) (d_val (d_callTy call_tupleZ psem_tuple rfl T.n_tuple (d_bcons (d_val (d_fz (d_compF (own := [("_law_key_here", 8)]) hu (d_iAny (d_slice (d_val (d_fz (d_lstF (d_cons d_str (d_cons d_str d_nil))))) d_pn (d_pe (d_callI hu C_L_draw (hr.mono (by omega)) rfl (pv 1) (d_cons d_int d_nil))))) (blkOk_by (N := ["_law_script", "_law_tape", "_law_turn", "_law_many", "_law_small", "_law_due", "_law_one", "_law_other", "_law_key_here", "_law_count"]) (sc := defScope st_law) (own := [("_law_key_here", 8)]) (by decide +kernel)) (fun _ _ _ _ _ => (d_gName (at_blk hu).nd rfl (by first | exact Or.inl rfl | exact Or.inr rfl) (by first | exact Or.inl rfl | exact Or.inr rfl))) (fun _ _ _ _ _ => pts_nilT) (fun _ _ _ _ _ => (d_tup (d_cons (d_var (pv 8)) (d_cons d_int d_nil)))) (by decide)))) d_bnil)))))) d_snil)
      (d_scons (d_ifS (d_tnot (d_tru (d_val (d_callP hu C_L_like (hr.mono (by omega)) rfl (d_cons (d_callP hu C_equal (hr.mono (by omega)) rfl (d_cons (d_var (pv 6)) (d_cons (d_var (pv 7)) d_nil))) (d_cons (d_callP hu C_L_equal (hr.mono (by omega)) rfl (d_cons (d_var (pv 6)) (d_cons (d_var (pv 7)) d_nil))) d_nil)))))) (d_sone (d_ret d_bl)) d_snil)
      (d_scons (d_ifS (d_tnot (d_tru (d_val (d_callP hu C_L_like (hr.mono (by omega)) rfl (d_cons (d_callP hu C_at_most (hr.mono (by omega)) rfl (d_cons (d_var (pv 6)) (d_cons (d_var (pv 7)) d_nil))) (d_cons (d_callP hu C_L_at_most (hr.mono (by omega)) rfl (d_cons (d_var (pv 6)) (d_cons (d_var (pv 7)) d_nil))) d_nil)))))) (d_sone (d_ret d_bl)) d_snil)
      (d_scons (d_ifS (d_tnot (d_tru (d_val (d_callP hu C_L_like (hr.mono (by omega)) rfl (d_cons (d_callP hu C_total (hr.mono (by omega)) rfl (d_cons (d_var (pv 6)) d_nil)) (d_cons (d_callB (cr_sum hu.calm) psem_sum rfl T.n_sum (d_bcons (d_val (d_fz (d_compF (own := [("_law_key_here", 8), ("_law_count", 9)]) hu (d_iAny (d_var (pv 6))) (blkOk_by (N := ["_law_script", "_law_tape", "_law_turn", "_law_many", "_law_small", "_law_due", "_law_one", "_law_other", "_law_key_here", "_law_count"]) (sc := defScope st_law) (own := [("_law_key_here", 8), ("_law_count", 9)]) (by decide +kernel)) (fun _ _ _ _ _ => (d_gTup (at_blk hu).calm (d_gC (d_gName (at_blk hu).nd rfl (by first | exact Or.inl rfl | exact Or.inr rfl) (by first | exact Or.inl rfl | exact Or.inr rfl)) (d_gC (d_gName (at_blk hu).nd rfl (by first | exact Or.inl rfl | exact Or.inr rfl) (by first | exact Or.inl rfl | exact Or.inr rfl)) d_gN)))) (fun _ _ _ _ _ => pts_nilT) (fun _ _ _ _ _ => (d_var (pv 9))) (by decide)))) d_bnil)) d_nil)))))) (d_sone (d_ret d_bl)) d_snil)
      (d_scons (d_for hu (passes_of rfl) (d_iAny (d_fz (d_lstF (d_cons d_int (d_cons d_int (d_cons d_int (d_cons d_int (d_cons (d_callB call_lenA psem_len rfl T.n_len (d_bcons (d_loc (pv 6)) d_bnil)) (d_cons d_int d_nil))))))))) (d_gName hu.nd rfl (by first | exact Or.inl rfl | exact Or.inr rfl) (by first | exact Or.inl rfl | exact Or.inr rfl)) (d_sone (d_ifS (d_tnot (d_tru (d_val (d_callP hu C_L_like (hr.mono (by omega)) rfl (d_cons (d_callPT hu C_most_common (hr.mono (by omega)) rfl (d_cons (d_var (pv 6)) (d_cons (d_var (pv 3)) d_nil))) (d_cons (d_callP hu C_L_ranked (hr.mono (by omega)) rfl (d_cons (d_var (pv 6)) (d_cons (d_var (pv 3)) d_nil))) d_nil)))))) (d_sone (d_ret d_bl)) d_snil)))
      (d_scons (d_set hu rfl (by first | exact Or.inl rfl | exact Or.inr rfl) (d_callTy call_tupleZ psem_tuple rfl T.n_tuple (d_bcons (d_val (d_fz (d_compF (own := [("_law_key_here", 8), ("_law_count", 9)]) hu (d_iAny (d_var (pv 6))) (blkOk_by (N := ["_law_script", "_law_tape", "_law_turn", "_law_many", "_law_small", "_law_due", "_law_one", "_law_other", "_law_key_here", "_law_count"]) (sc := defScope st_law) (own := [("_law_key_here", 8), ("_law_count", 9)]) (by decide +kernel)) (fun _ _ _ _ _ => (d_gTup (at_blk hu).calm (d_gC (d_gName (at_blk hu).nd rfl (by first | exact Or.inl rfl | exact Or.inr rfl) (by first | exact Or.inl rfl | exact Or.inr rfl)) (d_gC (d_gName (at_blk hu).nd rfl (by first | exact Or.inl rfl | exact Or.inr rfl) (by first | exact Or.inl rfl | exact Or.inr rfl)) d_gN)))) (fun _ _ _ _ _ => pts_nilT) (fun _ _ _ _ _ => (d_tup (d_cons (d_var (pv 8)) (d_cons (d_sub (d_val (d_mod (d_val (d_callTy call_int1 psem_int rfl T.n_int (d_bcons (d_loc (pv 9)) d_bnil))) (d_val d_int))) (d_val d_int)) d_nil)))) (by decide)))) d_bnil)))
      (d_scons (d_setF hu rfl (by first | exact Or.inl rfl | exact Or.inr rfl) (d_lstF d_nil))
      (d_scons (d_for hu (passes_of rfl) (d_iAny (d_var (pv 4))) (d_gTup hu.calm (d_gC (d_gName hu.nd rfl (by first | exact Or.inl rfl | exact Or.inr rfl) (by first | exact Or.inl rfl | exact Or.inr rfl)) (d_gC (d_gName hu.nd rfl (by first | exact Or.inl rfl | exact Or.inr rfl) (by first | exact Or.inl rfl | exact Or.inr rfl)) d_gN))) (d_sone (d_set hu rfl (by first | exact Or.inl rfl | exact Or.inr rfl) (d_add (d_loc (pv 5)) (d_val (d_repL (d_val (d_fz (d_lstF (d_cons (d_var (pv 8)) d_nil)))) (d_val (d_callB (call_max2 hu.calm) psem_max2 rfl T.n_max (d_bcons (d_val d_int) (d_bcons (d_val (d_callTy call_int1 psem_int rfl T.n_int (d_bcons (d_loc (pv 9)) d_bnil))) d_bnil))))))))))
      (d_sone (d_ifS (d_tcmp (op_neD hu.un) psem_ne (d_val (d_fz (d_listG hu C_each (hr.mono (by omega)) rfl rfl T.n_list (by decide +kernel) (d_cons (d_var (pv 4)) d_nil)))) (d_loc (pv 5)) (nomark _)) (d_sone (d_ret d_bl)) d_snil))))))))))))
      (d_sone (d_ret (d_and (d_cmp op_isA psem_is (d_val (d_callP hu C_equal (hr.mono (by omega)) rfl (d_cons (d_tup (d_cons (d_tup (d_cons d_str (d_cons d_int d_nil))) d_nil)) (d_cons (d_tup d_nil) d_nil)))) (d_val d_bl) (nomark _)) (d_one (d_cmp op_isA psem_is (d_val (d_callP hu C_at_most (hr.mono (by omega)) rfl (d_cons (d_tup (d_cons (d_tup (d_cons d_str (d_cons d_int d_nil))) d_nil)) (d_cons (d_tup d_nil) d_nil)))) (d_val d_bl) (nomark _))))))))
end
section
theorem all_mk {l : PySem.W.OpenLaw} {w : World} {K : PySem.W.Frag} {h : Heap} {mg : Str → Option Value} {fa : Addr} (X : K.In h) (G : h.Ns mainGlobals mg) (hfa : mg "law" = some (.ref fa))
    {cc PP : Addr} {ce : Value} {cdd : Option Addr} {cvs : Array Value} {csl : Array (Option Value)}
    {f0 : Addr} {od0 an0 : Option Addr} {sl0 : Array (Option Value)} {oc0 kV0 dc0 pm0 cd0 ct0 : Value}
    {f1 : Addr} {od1 an1 : Option Addr} {sl1 : Array (Option Value)} {oc1 kV1 dc1 pm1 cd1 ct1 : Value}
    {f2 : Addr} {od2 an2 : Option Addr} {sl2 : Array (Option Value)} {oc2 kV2 dc2 pm2 cd2 ct2 : Value}
    {f3 : Addr} {od3 an3 : Option Addr} {sl3 : Array (Option Value)} {oc3 kV3 dc3 pm3 cd3 ct3 : Value}
    {f4 : Addr} {od4 an4 : Option Addr} {sl4 : Array (Option Value)} {oc4 kV4 dc4 pm4 cd4 ct4 : Value}
    {f5 : Addr} {od5 an5 : Option Addr} {sl5 : Array (Option Value)} {oc5 kV5 dc5 pm5 cd5 ct5 : Value}
    {f6 : Addr} {od6 an6 : Option Addr} {sl6 : Array (Option Value)} {oc6 kV6 dc6 pm6 cd6 ct6 : Value}
    {f7 : Addr} {od7 an7 : Option Addr} {sl7 : Array (Option Value)} {oc7 kV7 dc7 pm7 cd7 ct7 : Value}
    {f8 : Addr} {od8 an8 : Option Addr} {sl8 : Array (Option Value)} {oc8 kV8 dc8 pm8 cd8 ct8 : Value}
    {f9 : Addr} {od9 an9 : Option Addr} {sl9 : Array (Option Value)} {oc9 kV9 dc9 pm9 cd9 ct9 : Value}
    {f10 : Addr} {od10 an10 : Option Addr} {sl10 : Array (Option Value)} {oc10 kV10 dc10 pm10 cd10 ct10 : Value}
    {f11 : Addr} {od11 an11 : Option Addr} {sl11 : Array (Option Value)} {oc11 kV11 dc11 pm11 cd11 ct11 : Value}
    {f12 : Addr} {od12 an12 : Option Addr} {sl12 : Array (Option Value)} {oc12 kV12 dc12 pm12 cd12 ct12 : Value}
    {f13 : Addr} {od13 an13 : Option Addr} {sl13 : Array (Option Value)} {oc13 kV13 dc13 pm13 cd13 ct13 : Value}
    {f14 : Addr} {od14 an14 : Option Addr} {sl14 : Array (Option Value)} {oc14 kV14 dc14 pm14 cd14 ct14 : Value}
    {f15 : Addr} {od15 an15 : Option Addr} {sl15 : Array (Option Value)} {oc15 kV15 dc15 pm15 cd15 ct15 : Value}
    {f16 : Addr} {od16 an16 : Option Addr} {sl16 : Array (Option Value)} {oc16 kV16 dc16 pm16 cd16 ct16 : Value}
    {f17 : Addr} {od17 an17 : Option Addr} {sl17 : Array (Option Value)} {oc17 kV17 dc17 pm17 cd17 ct17 : Value}
    {f18 : Addr} {od18 an18 : Option Addr} {sl18 : Array (Option Value)} {oc18 kV18 dc18 pm18 cd18 ct18 : Value}
    {f19 : Addr} {od19 an19 : Option Addr} {sl19 : Array (Option Value)} {oc19 kV19 dc19 pm19 ct19 : Value}
    {f20 : Addr} {od20 an20 : Option Addr} {sl20 : Array (Option Value)} {oc20 kV20 dc20 pm20 cd20 ct20 : Value}
    {f21 : Addr} {od21 an21 : Option Addr} {sl21 : Array (Option Value)} {oc21 kV21 dc21 pm21 cd21 ct21 : Value}
    {f22 : Addr} {od22 an22 : Option Addr} {sl22 : Array (Option Value)} {oc22 kV22 dc22 pm22 cd22 ct22 : Value}
    {tk0 : Tok}
    (a0 : PySem.W.nsIn K mainGlobals "_law_draw" = some (some (.ref f0))) (l0 : K.lookup f0 = some ⟨oc0, od0, .func (PySem.W.fnOf "_law_draw" "_law_draw" (defArgs st_L_draw) (defBody st_L_draw) (defScope st_L_draw) .none kV0 dc0 pm0 an0 cd0 ct0), sl0⟩) (c0 : PySem.W.codeIn K cd0 "_law_draw" = true) (k0 : PySem.W.keepIn K (.ref f0) = true)
    (a1 : PySem.W.nsIn K mainGlobals "_law_of" = some (some (.ref f1))) (l1 : K.lookup f1 = some ⟨oc1, od1, .func (PySem.W.fnOf "_law_of" "_law_of" (defArgs st_L_of) (defBody st_L_of) (defScope st_L_of) .none kV1 dc1 pm1 an1 cd1 ct1), sl1⟩) (c1 : PySem.W.codeIn K cd1 "_law_of" = true) (k1 : PySem.W.keepIn K (.ref f1) = true)
    (a2 : PySem.W.nsIn K mainGlobals "_law_key" = some (some (.ref f2))) (l2 : K.lookup f2 = some ⟨oc2, od2, .func (PySem.W.fnOf "_law_key" "_law_key" (defArgs st_L_key) (defBody st_L_key) (defScope st_L_key) .none kV2 dc2 pm2 an2 cd2 ct2), sl2⟩) (c2 : PySem.W.codeIn K cd2 "_law_key" = true) (k2 : PySem.W.keepIn K (.ref f2) = true)
    (a3 : PySem.W.nsIn K mainGlobals "_law_near" = some (some (.ref f3))) (l3 : K.lookup f3 = some ⟨oc3, od3, .func (PySem.W.fnOf "_law_near" "_law_near" (defArgs st_L_near) (defBody st_L_near) (defScope st_L_near) .none kV3 dc3 pm3 an3 cd3 ct3), sl3⟩) (c3 : PySem.W.codeIn K cd3 "_law_near" = true) (k3 : PySem.W.keepIn K (.ref f3) = true)
    (a4 : PySem.W.nsIn K mainGlobals "_law_counter" = some (some (.ref f4))) (l4 : K.lookup f4 = some ⟨oc4, od4, .func (PySem.W.fnOf "_law_counter" "_law_counter" (defArgs st_L_counter) (defBody st_L_counter) (defScope st_L_counter) .none kV4 dc4 pm4 an4 cd4 ct4), sl4⟩) (c4 : PySem.W.codeIn K cd4 "_law_counter" = true) (k4 : PySem.W.keepIn K (.ref f4) = true)
    (a5 : PySem.W.nsIn K mainGlobals "_law_like" = some (some (.ref f5))) (l5 : K.lookup f5 = some ⟨oc5, od5, .func (PySem.W.fnOf "_law_like" "_law_like" (defArgs st_L_like) (defBody st_L_like) (defScope st_L_like) .none kV5 dc5 pm5 an5 cd5 ct5), sl5⟩) (c5 : PySem.W.codeIn K cd5 "_law_like" = true) (k5 : PySem.W.keepIn K (.ref f5) = true)
    (a6 : PySem.W.nsIn K mainGlobals "is_name" = some (some (.ref f6))) (l6 : K.lookup f6 = some ⟨oc6, od6, .func (PySem.W.fnOf "is_name" "is_name" (defArgs st_is_name) (defBody st_is_name) (defScope st_is_name) .none kV6 dc6 pm6 an6 cd6 ct6), sl6⟩) (c6 : PySem.W.codeIn K cd6 "is_name" = true) (k6 : PySem.W.keepIn K (.ref f6) = true)
    (a7 : PySem.W.nsIn K mainGlobals "is_integer" = some (some (.ref f7))) (l7 : K.lookup f7 = some ⟨oc7, od7, .func (PySem.W.fnOf "is_integer" "is_integer" (defArgs st_is_integer) (defBody st_is_integer) (defScope st_is_integer) .none kV7 dc7 pm7 an7 cd7 ct7), sl7⟩) (c7 : PySem.W.codeIn K cd7 "is_integer" = true) (k7 : PySem.W.keepIn K (.ref f7) = true)
    (a8 : PySem.W.nsIn K mainGlobals "is_counter" = some (some (.ref f8))) (l8 : K.lookup f8 = some ⟨oc8, od8, .func (PySem.W.fnOf "is_counter" "is_counter" (defArgs st_is_counter) (defBody st_is_counter) (defScope st_is_counter) .none kV8 dc8 pm8 an8 cd8 ct8), sl8⟩) (c8 : PySem.W.codeIn K cd8 "is_counter" = true) (k8 : PySem.W.keepIn K (.ref f8) = true)
    (a9 : PySem.W.nsIn K mainGlobals "looked" = some (some (.ref f9))) (l9 : K.lookup f9 = some ⟨oc9, od9, .func (PySem.W.fnOf "looked" "looked" (defArgs st_looked) (defBody st_looked) (defScope st_looked) .none kV9 dc9 pm9 an9 cd9 ct9), sl9⟩) (c9 : PySem.W.codeIn K cd9 "looked" = true) (k9 : PySem.W.keepIn K (.ref f9) = true)
    (a10 : PySem.W.nsIn K mainGlobals "keys_of" = some (some (.ref f10))) (l10 : K.lookup f10 = some ⟨oc10, od10, .func (PySem.W.fnOf "keys_of" "keys_of" (defArgs st_keys_of) (defBody st_keys_of) (defScope st_keys_of) .none kV10 dc10 pm10 an10 cd10 ct10), sl10⟩) (c10 : PySem.W.codeIn K cd10 "keys_of" = true) (k10 : PySem.W.keepIn K (.ref f10) = true)
    (a11 : PySem.W.nsIn K mainGlobals "all_equal" = some (some (.ref f11))) (l11 : K.lookup f11 = some ⟨oc11, od11, .func (PySem.W.fnOf "all_equal" "all_equal" (defArgs st_all_equal) (defBody st_all_equal) (defScope st_all_equal) .none kV11 dc11 pm11 an11 cd11 ct11), sl11⟩) (c11 : PySem.W.codeIn K cd11 "all_equal" = true) (k11 : PySem.W.keepIn K (.ref f11) = true)
    (a12 : PySem.W.nsIn K mainGlobals "equal" = some (some (.ref f12))) (l12 : K.lookup f12 = some ⟨oc12, od12, .func (PySem.W.fnOf "equal" "equal" (defArgs st_equal) (defBody st_equal) (defScope st_equal) .none kV12 dc12 pm12 an12 cd12 ct12), sl12⟩) (c12 : PySem.W.codeIn K cd12 "equal" = true) (k12 : PySem.W.keepIn K (.ref f12) = true)
    (a13 : PySem.W.nsIn K mainGlobals "all_at_most" = some (some (.ref f13))) (l13 : K.lookup f13 = some ⟨oc13, od13, .func (PySem.W.fnOf "all_at_most" "all_at_most" (defArgs st_all_at_most) (defBody st_all_at_most) (defScope st_all_at_most) .none kV13 dc13 pm13 an13 cd13 ct13), sl13⟩) (c13 : PySem.W.codeIn K cd13 "all_at_most" = true) (k13 : PySem.W.keepIn K (.ref f13) = true)
    (a14 : PySem.W.nsIn K mainGlobals "at_most" = some (some (.ref f14))) (l14 : K.lookup f14 = some ⟨oc14, od14, .func (PySem.W.fnOf "at_most" "at_most" (defArgs st_at_most) (defBody st_at_most) (defScope st_at_most) .none kV14 dc14 pm14 an14 cd14 ct14), sl14⟩) (c14 : PySem.W.codeIn K cd14 "at_most" = true) (k14 : PySem.W.keepIn K (.ref f14) = true)
    (a15 : PySem.W.nsIn K mainGlobals "_law_equal" = some (some (.ref f15))) (l15 : K.lookup f15 = some ⟨oc15, od15, .func (PySem.W.fnOf "_law_equal" "_law_equal" (defArgs st_L_equal) (defBody st_L_equal) (defScope st_L_equal) .none kV15 dc15 pm15 an15 cd15 ct15), sl15⟩) (c15 : PySem.W.codeIn K cd15 "_law_equal" = true) (k15 : PySem.W.keepIn K (.ref f15) = true)
    (a16 : PySem.W.nsIn K mainGlobals "_law_at_most" = some (some (.ref f16))) (l16 : K.lookup f16 = some ⟨oc16, od16, .func (PySem.W.fnOf "_law_at_most" "_law_at_most" (defArgs st_L_at_most) (defBody st_L_at_most) (defScope st_L_at_most) .none kV16 dc16 pm16 an16 cd16 ct16), sl16⟩) (c16 : PySem.W.codeIn K cd16 "_law_at_most" = true) (k16 : PySem.W.keepIn K (.ref f16) = true)
    (a17 : PySem.W.nsIn K mainGlobals "total" = some (some (.ref f17))) (l17 : K.lookup f17 = some ⟨oc17, od17, .func (PySem.W.fnOf "total" "total" (defArgs st_total) (defBody st_total) (defScope st_total) .none kV17 dc17 pm17 an17 cd17 ct17), sl17⟩) (c17 : PySem.W.codeIn K cd17 "total" = true) (k17 : PySem.W.keepIn K (.ref f17) = true)
    (a18 : PySem.W.nsIn K mainGlobals "each" = some (some (.ref f18))) (l18 : K.lookup f18 = some ⟨oc18, od18, .func (PySem.W.fnOf "each" "each" (defArgs st_each) (defBody st_each) (defScope st_each) .none kV18 dc18 pm18 an18 cd18 ct18), sl18⟩) (c18 : PySem.W.codeIn K cd18 "each" = true) (k18 : PySem.W.keepIn K (.ref f18) = true)
    (a19 : PySem.W.nsIn K mainGlobals "ranked" = some (some (.ref f19))) (l19 : K.lookup f19 = some ⟨oc19, od19, .func (PySem.W.fnOf "ranked" "ranked" (defArgs st_ranked) (defBody st_ranked) (defScope st_ranked) .none kV19 dc19 pm19 an19 (.ref cc) ct19), sl19⟩) (c19 : PySem.W.codeIn K (.ref cc) "ranked" = true) (k19 : PySem.W.keepIn K (.ref f19) = true)
    (a20 : PySem.W.nsIn K mainGlobals "most_common" = some (some (.ref f20))) (l20 : K.lookup f20 = some ⟨oc20, od20, .func (PySem.W.fnOf "most_common" "most_common" (defArgs st_most_common) (defBody st_most_common) (defScope st_most_common) .none kV20 dc20 pm20 an20 cd20 ct20), sl20⟩) (c20 : PySem.W.codeIn K cd20 "most_common" = true) (k20 : PySem.W.keepIn K (.ref f20) = true)
    (a21 : PySem.W.nsIn K mainGlobals "_law_ranked" = some (some (.ref f21))) (l21 : K.lookup f21 = some ⟨oc21, od21, .func (PySem.W.fnOf "_law_ranked" "_law_ranked" (defArgs st_L_ranked) (defBody st_L_ranked) (defScope st_L_ranked) .none kV21 dc21 pm21 an21 cd21 ct21), sl21⟩) (c21 : PySem.W.codeIn K cd21 "_law_ranked" = true) (k21 : PySem.W.keepIn K (.ref f21) = true)
    (a22 : PySem.W.nsIn K mainGlobals "law" = some (some (.ref f22))) (l22 : K.lookup f22 = some ⟨oc22, od22, .func (PySem.W.fnOf "law" "law" (defArgs st_law) (defBody st_law) (defScope st_law) .none kV22 dc22 pm22 an22 cd22 ct22), sl22⟩) (c22 : PySem.W.codeIn K cd22 "law" = true) (k22 : PySem.W.keepIn K (.ref f22) = true)
    (hc : K.lookup cc = some ⟨ce, cdd, .fields cvs, csl⟩) (hP : cvs[11]? = some (.ref PP)) (hh : PySem.W.codeHdIn K cc PP = true) (nP : K.lookup PP = none)
    (z0 : PySem.W.nsIn K mainGlobals "all" = some none)
    (z1 : PySem.W.nsIn K mainGlobals "bool" = some none)
    (z2 : PySem.W.nsIn K mainGlobals "dict" = some none)
    (z3 : PySem.W.nsIn K mainGlobals "int" = some none)
    (z4 : PySem.W.nsIn K mainGlobals "isinstance" = some none)
    (z5 : PySem.W.nsIn K mainGlobals "len" = some none)
    (z6 : PySem.W.nsIn K mainGlobals "list" = some none)
    (z7 : PySem.W.nsIn K mainGlobals "max" = some none)
    (z8 : PySem.W.nsIn K mainGlobals "range" = some none)
    (z9 : PySem.W.nsIn K mainGlobals "sorted" = some none)
    (z10 : PySem.W.nsIn K mainGlobals "str" = some none)
    (z11 : PySem.W.nsIn K mainGlobals "sum" = some none)
    (z12 : PySem.W.nsIn K mainGlobals "tuple" = some none)
    (y0 : PySem.W.nsIn K mainGlobals "LETTERS" = some (some (.str "abcdefghijklmnopqrstuvwxyz" tk0)))
    : ∃ (fd fdr : FuncData) (fr c P : Addr) (o1 : Obj) (e : Value) (dd : Option Addr) (vs : Array Value) (sl : Array (Option Value)), mg "ranked" = some (.ref fr) ∧ K.lookup fr = some o1 ∧ o1.data = .func fdr ∧ fdr.code = .ref c ∧ K.lookup c = some ⟨e, dd, .fields vs, sl⟩ ∧ vs[11]? = some (.ref P) ∧ PySem.W.codeHdIn K c P = true ∧ K.lookup P = none ∧ (∀ (s : Shared) (v : Value), BindsTo s fd ⟨[v], []⟩ [("_law_script", v)]) ∧ ∀ base : Heap, K.In base → base.Ns mainGlobals mg → LamX.TabB base mg c P → FnOk l.prog w K mg base (L2N.CX l.prog w) 42 fa fd ["_law_script"] (spT K P m_law) := by
  have e := hfa.symm.trans (PySem.W.mg_of X G a22)
  cases e
  have T : Tx K mg := ⟨PySem.W.mg_none_of X G z0, PySem.W.mg_none_of X G z1, PySem.W.mg_none_of X G z2, PySem.W.mg_none_of X G z3, PySem.W.mg_none_of X G z4, PySem.W.mg_none_of X G z5, PySem.W.mg_none_of X G z6, PySem.W.mg_none_of X G z7, PySem.W.mg_none_of X G z8, PySem.W.mg_none_of X G z9, PySem.W.mg_none_of X G z10, PySem.W.mg_none_of X G z11, PySem.W.mg_none_of X G z12, ⟨_, PySem.W.mg_of X G y0, ⟨_, rfl⟩⟩⟩
  have F0 := fun_mk (st := st_L_draw) l0 c0 k0
  have N0 : Fn K mg "_law_draw" st_L_draw ["_law_tape", "_law_many"] := ⟨_, _, F0, PySem.W.mg_of X G a0, F0.binds (ps := ["_law_tape", "_law_many"]) fun _ _ _ _ _ _ us hl => match us, hl with | [_, _], _ => rfl⟩
  have F1 := fun_mk (st := st_L_of) l1 c1 k1
  have N1 : Fn K mg "_law_of" st_L_of ["_law_tape", "_law_some"] := ⟨_, _, F1, PySem.W.mg_of X G a1, F1.binds (ps := ["_law_tape", "_law_some"]) fun _ _ _ _ _ _ us hl => match us, hl with | [_, _], _ => rfl⟩
  have F2 := fun_mk (st := st_L_key) l2 c2 k2
  have N2 : Fn K mg "_law_key" st_L_key ["_law_tape"] := ⟨_, _, F2, PySem.W.mg_of X G a2, F2.binds (ps := ["_law_tape"]) fun _ _ _ _ _ _ us hl => match us, hl with | [_], _ => rfl⟩
  have F3 := fun_mk (st := st_L_near) l3 c3 k3
  have N3 : Fn K mg "_law_near" st_L_near ["_law_tape", "_law_wide"] := ⟨_, _, F3, PySem.W.mg_of X G a3, F3.binds (ps := ["_law_tape", "_law_wide"]) fun _ _ _ _ _ _ us hl => match us, hl with | [_, _], _ => rfl⟩
  have F4 := fun_mk (st := st_L_counter) l4 c4 k4
  have N4 : Fn K mg "_law_counter" st_L_counter ["_law_tape", "_law_limit", "_law_proper_so"] := ⟨_, _, F4, PySem.W.mg_of X G a4, F4.binds (ps := ["_law_tape", "_law_limit", "_law_proper_so"]) fun _ _ _ _ _ _ us hl => match us, hl with | [_, _, _], _ => rfl⟩
  have F5 := fun_mk (st := st_L_like) l5 c5 k5
  have N5 : Fn K mg "_law_like" st_L_like ["_law_one", "_law_two"] := ⟨_, _, F5, PySem.W.mg_of X G a5, F5.binds (ps := ["_law_one", "_law_two"]) fun _ _ _ _ _ _ us hl => match us, hl with | [_, _], _ => rfl⟩
  have F6 := fun_mk (st := st_is_name) l6 c6 k6
  have N6 : Fn K mg "is_name" st_is_name ["thing"] := ⟨_, _, F6, PySem.W.mg_of X G a6, F6.binds (ps := ["thing"]) fun _ _ _ _ _ _ us hl => match us, hl with | [_], _ => rfl⟩
  have F7 := fun_mk (st := st_is_integer) l7 c7 k7
  have N7 : Fn K mg "is_integer" st_is_integer ["thing"] := ⟨_, _, F7, PySem.W.mg_of X G a7, F7.binds (ps := ["thing"]) fun _ _ _ _ _ _ us hl => match us, hl with | [_], _ => rfl⟩
  have F8 := fun_mk (st := st_is_counter) l8 c8 k8
  have N8 : Fn K mg "is_counter" st_is_counter ["thing"] := ⟨_, _, F8, PySem.W.mg_of X G a8, F8.binds (ps := ["thing"]) fun _ _ _ _ _ _ us hl => match us, hl with | [_], _ => rfl⟩
  have F9 := fun_mk (st := st_looked) l9 c9 k9
  have N9 : FnS K mg "looked" st_looked "counters" := ⟨_, _, F9, PySem.W.mg_of X G a9, fun us rest hl => match us, rest, hl with | [], [], _ => rfl | [], _ :: _, _ => rfl⟩
  have F10 := fun_mk (st := st_keys_of) l10 c10 k10
  have N10 : FnS K mg "keys_of" st_keys_of "counters" := ⟨_, _, F10, PySem.W.mg_of X G a10, fun us rest hl => match us, rest, hl with | [], [], _ => rfl | [], _ :: _, _ => rfl⟩
  have F11 := fun_mk (st := st_all_equal) l11 c11 k11
  have N11 : Fn K mg "all_equal" st_all_equal ["one", "other"] := ⟨_, _, F11, PySem.W.mg_of X G a11, F11.binds (ps := ["one", "other"]) fun _ _ _ _ _ _ us hl => match us, hl with | [_, _], _ => rfl⟩
  have F12 := fun_mk (st := st_equal) l12 c12 k12
  have N12 : Fn K mg "equal" st_equal ["one", "other"] := ⟨_, _, F12, PySem.W.mg_of X G a12, F12.binds (ps := ["one", "other"]) fun _ _ _ _ _ _ us hl => match us, hl with | [_, _], _ => rfl⟩
  have F13 := fun_mk (st := st_all_at_most) l13 c13 k13
  have N13 : Fn K mg "all_at_most" st_all_at_most ["one", "other"] := ⟨_, _, F13, PySem.W.mg_of X G a13, F13.binds (ps := ["one", "other"]) fun _ _ _ _ _ _ us hl => match us, hl with | [_, _], _ => rfl⟩
  have F14 := fun_mk (st := st_at_most) l14 c14 k14
  have N14 : Fn K mg "at_most" st_at_most ["one", "other"] := ⟨_, _, F14, PySem.W.mg_of X G a14, F14.binds (ps := ["one", "other"]) fun _ _ _ _ _ _ us hl => match us, hl with | [_, _], _ => rfl⟩
  have F15 := fun_mk (st := st_L_equal) l15 c15 k15
  have N15 : Fn K mg "_law_equal" st_L_equal ["_law_one", "_law_other"] := ⟨_, _, F15, PySem.W.mg_of X G a15, F15.binds (ps := ["_law_one", "_law_other"]) fun _ _ _ _ _ _ us hl => match us, hl with | [_, _], _ => rfl⟩
  have F16 := fun_mk (st := st_L_at_most) l16 c16 k16
  have N16 : Fn K mg "_law_at_most" st_L_at_most ["_law_one", "_law_other"] := ⟨_, _, F16, PySem.W.mg_of X G a16, F16.binds (ps := ["_law_one", "_law_other"]) fun _ _ _ _ _ _ us hl => match us, hl with | [_, _], _ => rfl⟩
  have F17 := fun_mk (st := st_total) l17 c17 k17
  have N17 : Fn K mg "total" st_total ["counter"] := ⟨_, _, F17, PySem.W.mg_of X G a17, F17.binds (ps := ["counter"]) fun _ _ _ _ _ _ us hl => match us, hl with | [_], _ => rfl⟩
  have F18 := fun_mk (st := st_each) l18 c18 k18
  have N18 : Fn K mg "each" st_each ["counter"] := ⟨_, _, F18, PySem.W.mg_of X G a18, F18.binds (ps := ["counter"]) fun _ _ _ _ _ _ us hl => match us, hl with | [_], _ => rfl⟩
  have F19 := fun_mk (st := st_ranked) l19 c19 k19
  have N19 : Fn K mg "ranked" st_ranked ["counter"] := ⟨_, _, F19, PySem.W.mg_of X G a19, F19.binds (ps := ["counter"]) fun _ _ _ _ _ _ us hl => match us, hl with | [_], _ => rfl⟩
  have F20 := fun_mk (st := st_most_common) l20 c20 k20
  have N20 : Fn K mg "most_common" st_most_common ["counter", "many"] := ⟨_, _, F20, PySem.W.mg_of X G a20, F20.binds (ps := ["counter", "many"]) fun _ _ _ _ _ _ us hl => match us, hl with | [_, _], _ => rfl⟩
  have F21 := fun_mk (st := st_L_ranked) l21 c21 k21
  have N21 : Fn K mg "_law_ranked" st_L_ranked ["_law_counter_here", "_law_many"] := ⟨_, _, F21, PySem.W.mg_of X G a21, F21.binds (ps := ["_law_counter_here", "_law_many"]) fun _ _ _ _ _ _ us hl => match us, hl with | [_, _], _ => rfl⟩
  have F22 := fun_mk (st := st_law) l22 c22 k22
  have N22 : Fn K mg "law" st_law ["_law_script"] := ⟨_, _, F22, PySem.W.mg_of X G a22, F22.binds (ps := ["_law_script"]) fun _ _ _ _ _ _ us hl => match us, hl with | [_], _ => rfl⟩
  refine ⟨PySem.W.fnOf "law" "law" (defArgs st_law) (defBody st_law) (defScope st_law) .none kV22 dc22 pm22 an22 cd22 ct22, _, f19, cc, PP, _, ce, cdd, cvs, csl, PySem.W.mg_of X G a19, l19, rfl, rfl, hc, hP, hh, nP, fun s v => .of_eq rfl, fun base _ _ TB => ?_⟩
  have C_L_draw := w_L_draw (P := l.prog) (w := w) (base := base) T N0
  have C_L_of := w_L_of (P := l.prog) (w := w) (base := base) T N1 C_L_draw
  have C_L_key := w_L_key (P := l.prog) (w := w) (base := base) T N2 C_L_of
  have C_L_near := w_L_near (P := l.prog) (w := w) (base := base) T N3 C_L_draw
  have C_L_counter := w_L_counter (P := l.prog) (w := w) (base := base) T N4 C_L_draw C_L_key C_L_near
  have C_L_like := w_L_like (P := l.prog) (w := w) (base := base) T N5 40
  have C_is_name := w_is_name (P := l.prog) (w := w) (base := base) T N6
  have C_is_integer := w_is_integer (P := l.prog) (w := w) (base := base) T N7
  have C_is_counter := w_is_counter (P := l.prog) (w := w) (base := base) T N8 C_is_name C_is_integer
  have C_looked := w_looked (P := l.prog) (w := w) (base := base) T N9 C_is_counter
  have C_keys_of := w_keys_of (P := l.prog) (w := w) (base := base) T N10
  have C_all_equal := w_all_equal (P := l.prog) (w := w) (base := base) T N11 C_keys_of
  have C_equal := w_equal (P := l.prog) (w := w) (base := base) T N12 C_looked C_all_equal
  have C_all_at_most := w_all_at_most (P := l.prog) (w := w) (base := base) T N13 C_keys_of
  have C_at_most := w_at_most (P := l.prog) (w := w) (base := base) T N14 C_looked C_all_at_most
  have C_L_equal := w_L_equal (P := l.prog) (w := w) (base := base) T N15
  have C_L_at_most := w_L_at_most (P := l.prog) (w := w) (base := base) T N16
  have C_total := w_total (P := l.prog) (w := w) (base := base) T N17 C_looked
  have C_each := w_each (P := l.prog) (w := w) (base := base) T N18 C_looked
  have C_ranked := w_ranked (P := l.prog) (w := w) (base := base) T F19 rfl (PySem.W.mg_of X G a19) (F19.binds (ps := ["counter"]) fun _ _ _ _ _ _ us hl => match us, hl with | [_], _ => rfl) TB
  have C_most_common := w_most_common (P := l.prog) (w := w) (base := base) T N20 C_looked C_ranked C_is_integer
  have C_L_ranked := w_L_ranked (P := l.prog) (w := w) (base := base) T N21
  exact w_law (P := l.prog) (w := w) (base := base) T F22 C_L_counter C_L_draw C_L_like C_equal C_at_most C_L_equal C_L_at_most C_total C_each C_most_common C_L_ranked
theorem walk {l : PySem.W.OpenLaw} {q : Program} {loose : List Str} {XP : (Str → Option Value) → Heap → Prop} {YP : World → Heap → Prop} {d : DefRec} {K : Params → PySem.W.Frag} (hn : l.most = some 63) (hdf : d.params.defaults = []) (hrec : ((recsOf q).any fun e => e.name == "ranked") = true)
    (hY : ∀ (w : World) (h : Heap), YP w h → (K w.params).In h)
    (F : ∀ (w : World) (mg : Str → Option Value) (fa : Addr) (h : Heap), (K w.params).In h → h.Ns mainGlobals mg → mg d.name = some (.ref fa) →
      ∃ (fd fdr : FuncData) (fr c P : Addr) (o1 : Obj) (e : Value) (dd : Option Addr) (vs : Array Value) (sl : Array (Option Value)), mg "ranked" = some (.ref fr) ∧ (K w.params).lookup fr = some o1 ∧ o1.data = .func fdr ∧ fdr.code = .ref c ∧ (K w.params).lookup c = some ⟨e, dd, .fields vs, sl⟩ ∧ vs[11]? = some (.ref P) ∧ PySem.W.codeHdIn (K w.params) c P = true ∧ (K w.params).lookup P = none ∧ (∀ (s : Shared) (v : Value), BindsTo s fd ⟨[v], []⟩ [("_law_script", v)]) ∧ ∀ base : Heap, (K w.params).In base → base.Ns mainGlobals mg → LamX.TabB base mg c P → FnOk l.prog w (K w.params) mg base (L2N.CX l.prog w) 42 fa fd ["_law_script"] (spT (K w.params) P m_law))
    (plain : ∀ ns : List Int, ns.length ≤ 63 → (∀ z ∈ ns, Builtin.Int.intBits z ≤ 1048576) → ∃ o, m_law [.scr ns] = .ok (.bl true) o) :
    PySem.W.WalkO q loose XP YP l.row.toRowW d [] (fun f vs => PySem.call f vs) := walkT2 (dn := "ranked") hn hdf ⟨rfl, by decide, by decide⟩ hrec hY F plain
end
end
end Lw

/-! Data of bounded width and depth, without dicts. -/
namespace Dt
open PySem
def Ok (m : Nat) : Nat → D → Prop
  | _, .non => True
  | _, .bl _ => True
  | _, .int _ => True
  | _, .str s => s.length ≤ m ∧ ∀ c ∈ s.cps.toList, c < 128
  | n + 1, .tup ds => ds.length ≤ m ∧ ∀ d ∈ ds, Ok m n d
  | n + 1, .lst ds => ds.length ≤ m ∧ ∀ d ∈ ds, Ok m n d
  | _, _ => False
@[simp] theorem ok_non {m n : Nat} : Ok m n .non := by cases n <;> trivial
@[simp] theorem ok_bl {m n : Nat} {b : Bool} : Ok m n (.bl b) := by cases n <;> trivial
@[simp] theorem ok_int {m n : Nat} {i : Int} : Ok m n (.int i) := by cases n <;> trivial
theorem ok_str {m n : Nat} {s : Str} : Ok m n (.str s) ↔ s.length ≤ m ∧ ∀ c ∈ s.cps.toList, c < 128 := by cases n <;> exact Iff.rfl
theorem ok_tup {m n : Nat} {ds : List D} : Ok m (n + 1) (.tup ds) ↔ ds.length ≤ m ∧ ∀ d ∈ ds, Ok m n d := Iff.rfl
theorem ok_lst {m n : Nat} {ds : List D} : Ok m (n + 1) (.lst ds) ↔ ds.length ≤ m ∧ ∀ d ∈ ds, Ok m n d := Iff.rfl
theorem Ok.mono {m m' : Nat} (hm : m ≤ m') : ∀ {n n' : Nat} {d : D}, n ≤ n' → Ok m n d → Ok m' n' d := by
  intro n
  induction n with
  | zero =>
    intro n' d hn h
    cases d with
    | non => simp
    | bl _ => simp
    | int _ => simp
    | str s => rw [ok_str] at h ⊢; exact ⟨Nat.le_trans h.1 hm, h.2⟩
    | _ => exact h.elim
  | succ n ih =>
    intro n' d hn h
    cases d with
    | non => simp
    | bl _ => simp
    | int _ => simp
    | str s => rw [ok_str] at h ⊢; exact ⟨Nat.le_trans h.1 hm, h.2⟩
    | tup ds =>
      cases n' with
      | zero => omega
      | succ n' => exact ⟨Nat.le_trans h.1 hm, fun d hd => ih (by omega) (h.2 d hd)⟩
    | lst ds =>
      cases n' with
      | zero => omega
      | succ n' => exact ⟨Nat.le_trans h.1 hm, fun d hd => ih (by omega) (h.2 d hd)⟩
    | _ => exact h.elim

mutual
def D.toP : D → PyData
  | .non => .none
  | .bl b => .bool b
  | .int i => .int i
  | .str s => .str s
  | .tup ds => .tuple (D.toPs ds)
  | .lst ds => .list (D.toPs ds)
  | .dct _ _ => .none
  | .scr _ => .none
  | .arg _ => .none
  | .fn _ => .none
  | .exn _ => .none
  | .nd _ _ => .none
def D.toPs : List D → List PyData
  | [] => []
  | d :: ds => D.toP d :: D.toPs ds
end
theorem pys_of {ds : List D} (h : ∀ d ∈ ds, d.py = some d.toP) : D.pys ds = some (D.toPs ds) := by
  induction ds with
  | nil => simp [D.pys, D.toPs]
  | cons d ds ih =>
    rw [D.pys, h d List.mem_cons_self, ih fun d hd => h d (List.mem_cons_of_mem _ hd), D.toPs]
    rfl
theorem layAll_of {ds : List D} (h : ∀ d ∈ ds, d.toP.canLay0 = true) : PyData.canLayAll0 (D.toPs ds) = true := by
  induction ds with
  | nil => simp [D.toPs, PyData.canLayAll0]
  | cons d ds ih =>
    rw [D.toPs, PyData.canLayAll0, h d List.mem_cons_self, ih fun d hd => h d (List.mem_cons_of_mem _ hd)]
    rfl
theorem depthAll_of {ds : List D} {n : Nat} (h : ∀ d ∈ ds, d.toP.depth ≤ n) : PyData.depthAll (D.toPs ds) ≤ n := by
  induction ds with
  | nil => simp [D.toPs, PyData.depthAll]
  | cons d ds ih =>
    rw [D.toPs, PyData.depthAll]
    exact Nat.max_le.mpr ⟨h d List.mem_cons_self, ih fun d hd => h d (List.mem_cons_of_mem _ hd)⟩
theorem Ok.py {m : Nat} : ∀ {n : Nat} {d : D}, Ok m n d → d.py = some d.toP ∧ d.toP.canLay0 = true ∧ d.toP.depth ≤ n := by
  have str : ∀ {s : Str} {n : Nat}, (s.length ≤ m ∧ ∀ c ∈ s.cps.toList, c < 128) → (D.str s).py = some (D.str s).toP ∧ (D.str s).toP.canLay0 = true ∧ (D.str s).toP.depth ≤ n := fun {s n} h => by
    refine ⟨by simp [D.py, D.toP], ?_, by simp [D.toP, PyData.depth]⟩
    simp only [D.toP, PyData.canLay0, PyData.strOk]
    rw [Array.all_eq_true_iff_forall_mem]
    intro c hc
    have := h.2 c (by simpa using hc)
    exact decide_eq_true (by omega)
  intro n
  induction n with
  | zero =>
    intro d h
    cases d with
    | non => simp [D.py, D.toP, PyData.canLay0, PyData.depth]
    | bl _ => simp [D.py, D.toP, PyData.canLay0, PyData.depth]
    | int _ => simp [D.py, D.toP, PyData.canLay0, PyData.depth]
    | str s => exact str (ok_str.mp h)
    | _ => exact h.elim
  | succ n ih =>
    intro d h
    cases d with
    | non => simp [D.py, D.toP, PyData.canLay0, PyData.depth]
    | bl _ => simp [D.py, D.toP, PyData.canLay0, PyData.depth]
    | int _ => simp [D.py, D.toP, PyData.canLay0, PyData.depth]
    | str s => exact str (ok_str.mp h)
    | tup ds =>
      have q := fun d hd => ih (h.2 d hd)
      refine ⟨?_, ?_, ?_⟩
      · rw [D.py, pys_of fun d hd => (q d hd).1, D.toP]; rfl
      · rw [D.toP, PyData.canLay0]; exact layAll_of fun d hd => (q d hd).2.1
      · rw [D.toP, PyData.depth]; exact Nat.succ_le_succ (depthAll_of fun d hd => (q d hd).2.2)
    | lst ds =>
      have q := fun d hd => ih (h.2 d hd)
      refine ⟨?_, ?_, ?_⟩
      · rw [D.py, pys_of fun d hd => (q d hd).1, D.toP]; rfl
      · rw [D.toP, PyData.canLay0]; exact layAll_of fun d hd => (q d hd).2.1
      · rw [D.toP, PyData.depth]; exact Nat.succ_le_succ (depthAll_of fun d hd => (q d hd).2.2)
    | _ => exact h.elim
theorem Ok.shaped {m n : Nat} {d : D} (h : Ok m n d) (hn : n ≤ 64) : SeqAt.shaped d.toP = true := by
  unfold SeqAt.shaped
  rw [h.py.2.1, Bool.true_and]
  exact decide_eq_true (Nat.le_trans h.py.2.2 hn)
def D.eqv (a b : D) : Bool := PyData.eqv a.toP b.toP
theorem eqD_ok {m n m' n' : Nat} {a b : D} (ha : Ok m n a) (hb : Ok m' n' b) (hn : n ≤ 64) (hn' : n' ≤ 64) : eqD a b = some (a.eqv b) := by
  unfold eqD
  rw [ha.py.1, hb.py.1]
  simp only [Option.bind_some]
  rw [ha.shaped hn, hb.shaped hn']
  rfl
theorem eqv_lst_nil (ds : List D) : (D.lst ds).eqv (.lst []) = ds.isEmpty := by
  cases ds <;> simp [D.eqv, D.toP, D.toPs, PyData.eqv, PyData.eqvAll]
@[simp] theorem eqv_bl (a b : Bool) : (D.bl a).eqv (.bl b) = (a == b) := by simp [D.eqv, D.toP, PyData.eqv]
@[simp] theorem eqv_int (a b : Int) : (D.int a).eqv (.int b) = (a == b) := by simp [D.eqv, D.toP, PyData.eqv]
@[simp] theorem eqD_int (a b : Int) : eqD (.int a) (.int b) = some (a == b) := by rw [eqD_ok (m := 0) (n := 0) (m' := 0) (n' := 0) ok_int ok_int (by omega) (by omega), eqv_int]
@[simp] theorem eqD_bl (a b : Bool) : eqD (.bl a) (.bl b) = some (a == b) := by rw [eqD_ok (m := 0) (n := 0) (m' := 0) (n' := 0) ok_bl ok_bl (by omega) (by omega), eqv_bl]
theorem eqv_self : ∀ (n : Nat) {m : Nat} {d : D}, Ok m n d → d.eqv d = true
  | n, m, .non, _ => by simp [D.eqv, D.toP, PyData.eqv]
  | n, m, .bl b, _ => by simp
  | n, m, .int i, _ => by simp
  | n, m, .str s, _ => by simp [D.eqv, D.toP, PyData.eqv]
  | n + 1, m, .tup ds, h => by
    have go : ∀ es : List D, (∀ d ∈ es, Ok m n d) → PyData.eqvAll (D.toPs es) (D.toPs es) = true := fun es => by
      induction es with
      | nil => intro _; simp [D.toPs, PyData.eqvAll]
      | cons e es ih =>
        intro h
        have h1 : PyData.eqv e.toP e.toP = true := eqv_self n (h e (.head _))
        rw [D.toPs, PyData.eqvAll, h1, ih fun d hd => h d (.tail _ hd)]
        rfl
    show PyData.eqv (.tuple (D.toPs ds)) (.tuple (D.toPs ds)) = true
    rw [PyData.eqv]
    exact go ds h.2
  | n + 1, m, .lst ds, h => by
    have go : ∀ es : List D, (∀ d ∈ es, Ok m n d) → PyData.eqvAll (D.toPs es) (D.toPs es) = true := fun es => by
      induction es with
      | nil => intro _; simp [D.toPs, PyData.eqvAll]
      | cons e es ih =>
        intro h
        have h1 : PyData.eqv e.toP e.toP = true := eqv_self n (h e (.head _))
        rw [D.toPs, PyData.eqvAll, h1, ih fun d hd => h d (.tail _ hd)]
        rfl
    show PyData.eqv (.list (D.toPs ds)) (.list (D.toPs ds)) = true
    rw [PyData.eqv]
    exact go ds h.2
  | 0, m, .tup _, h => h.elim
  | 0, m, .lst _, h => h.elim
  | 0, m, .dct _ _, h => h.elim
  | 0, m, .scr _, h => h.elim
  | 0, m, .arg _, h => h.elim
  | 0, m, .fn _, h => h.elim
  | 0, m, .exn _, h => h.elim
  | 0, m, .nd _ _, h => h.elim
  | _ + 1, m, .dct _ _, h => h.elim
  | _ + 1, m, .scr _, h => h.elim
  | _ + 1, m, .arg _, h => h.elim
  | _ + 1, m, .fn _, h => h.elim
  | _ + 1, m, .nd _ _, h => h.elim
theorem eqD_self {n m : Nat} {d : D} (h : Ok m n d) (hn : n ≤ 60) : eqD d d = some true := by rw [eqD_ok h h (by omega) (by omega), eqv_self n h]
end Dt

/-! The draws of the laws' tape, plain. -/
namespace Lw
open Dt PySem
/-- the law's tape: the script's numbers, the place, what is left of the cell -/
def TapeOk (t : D) : Prop := ∃ (ns : List Int) (k r : Int), t = .lst [.lst (ns.map D.int), .int k, .int r]
@[simp] theorem atI_0 {α : Type} (a b c : α) : L2.atI [a, b, c] 0 = some a := rfl
@[simp] theorem atI_1 {α : Type} (a b c : α) : L2.atI [a, b, c] 1 = some b := rfl
@[simp] theorem atI_2 {α : Type} (a b c : α) : L2.atI [a, b, c] 2 = some c := rfl
@[simp] theorem ixN_1 : L2.ixN 3 1 = some 1 := rfl
@[simp] theorem ixN_2 : L2.ixN 3 2 = some 2 := rfl
theorem atI_mod {ns : List Int} (k : Int) (h : 0 < ns.length) : ∃ c, L2.atI (ns.map D.int) (k % ns.length) = some (.int c) := by
  have h1 : 0 ≤ k % (ns.length : Int) := Int.emod_nonneg _ (by omega)
  have h2 : k % (ns.length : Int) < ns.length := Int.emod_lt_of_pos _ (by omega)
  obtain ⟨j, hj⟩ : ∃ j : Nat, k % (ns.length : Int) = j := ⟨(k % (ns.length : Int)).toNat, by omega⟩
  rw [hj] at h2 ⊢
  have hl : j < ns.length := by omega
  exact ⟨ns[j], L2.atI_nat (by simp [hl])⟩
theorem mulA_l (i j : Int) (h1 : -(2 ^ 64) < i) (h2 : i < 2 ^ 64) : CMulA i j := .inl (.inl ⟨h1, h2⟩)
theorem mulA_p (x y : Int) : CMulA (x % 2305843009213693951) y := mulA_l _ _ (by have := Int.emod_nonneg x (b := 2305843009213693951) (by decide); omega) (by have := Int.emod_lt_of_pos x (b := 2305843009213693951) (by decide); omega)
set_option maxHeartbeats 2000000 in
theorem draw_ok {t : D} {m : Int} (ht : TapeOk t) (h0 : 0 < m) (hm : m.natAbs.log2 < 9000) : ∃ v t', m_L_draw [t, .int m] = .ok (.int v) [t'] ∧ TapeOk t' ∧ 0 ≤ v ∧ v < m := by
  obtain ⟨ns, k, r, rfl⟩ := ht
  have fin : ∀ (k' x : Int), 0 ≤ x % m ∧ x % m < m ∧ TapeOk (.lst [.lst (ns.map D.int), .int k', .int (x / m)]) := fun k' x => ⟨Int.emod_nonneg _ (by omega), Int.emod_lt_of_pos _ h0, _, _, _, rfl⟩
  have c1 : ∀ x, L2.CDivW x m := fun x => ⟨h0, hm⟩
  have c2 : L2.CPow 10 18 := ⟨by decide, by decide, by decide⟩
  have c3 : ∀ x, CMulA 1000003 x := fun x => mulA_l _ _ (by decide) (by decide)
  have c4 : ∀ x, CMulA 1181783497276652981 x := fun x => mulA_l _ _ (by decide) (by decide)
  unfold m_L_draw runI b_L_draw u1_L_draw u0_L_draw
  by_cases h1 : r < m
  · by_cases h2 : 0 < ns.length
    · obtain ⟨c, hc⟩ := atI_mod k h2
      by_cases h3 : (ns.length : Int) ≤ k
      · simp [gLt, lexI, gIdx, idxD, h1, gLen, gGt, gGe, gInt, gMod, gI, putD, h2, hc, h3, gPow, c2, gMul, c3, c4, gAdd, mulA_p, gDiv, h0, c1, lastIo]
        exact ⟨_, _, ⟨rfl, rfl⟩, (fin _ _).2.2, (fin 0 _).1, (fin 0 _).2.1⟩
      · by_cases h4 : c < 10 ^ 18
        · have h4' : c < 1000000000000000000 := h4
          simp [gLt, lexI, gIdx, idxD, h1, gLen, gGt, gGe, gInt, gMod, gI, putD, h2, hc, h3, h4', gPow, c2, gMul, c3, c4, gAdd, mulA_p, gDiv, h0, c1, lastIo]
          exact ⟨_, _, ⟨rfl, rfl⟩, (fin _ _).2.2, (fin 0 _).1, (fin 0 _).2.1⟩
        · have h4' : ¬ c < 1000000000000000000 := h4
          simp [gLt, lexI, gIdx, idxD, h1, gLen, gGt, gGe, gInt, gMod, gI, putD, h2, hc, h3, h4', gPow, c2, gMul, c3, c4, gAdd, mulA_p, gDiv, h0, c1, lastIo]
          exact ⟨_, _, ⟨rfl, rfl⟩, (fin _ _).2.2, (fin 0 _).1, (fin 0 _).2.1⟩
    · have e : ns = [] := by cases ns with | nil => rfl | cons a b => simp at h2
      subst e
      by_cases h3 : (0 : Int) ≤ k
      · simp [gLt, lexI, gIdx, idxD, h1, gLen, gGt, gGe, gInt, gMod, gI, putD, h3, gPow, c2, gMul, c3, c4, gAdd, mulA_p, gDiv, h0, c1, lastIo]
        exact ⟨_, _, ⟨rfl, rfl⟩, (fin _ _).2.2, (fin 0 _).1, (fin 0 _).2.1⟩
      · simp [gLt, lexI, gIdx, idxD, h1, gLen, gGt, gGe, gInt, gMod, gI, putD, h3, gPow, c2, gMul, c3, c4, gAdd, mulA_p, gDiv, h0, c1, lastIo]
        exact ⟨_, _, ⟨rfl, rfl⟩, (fin _ _).2.2, (fin 0 _).1, (fin 0 _).2.1⟩
  · simp [gLt, lexI, gIdx, idxD, h1, gLen, gGt, gInt, gMod, gI, putD, gDiv, h0, c1, lastIo]
    exact ⟨_, _, ⟨rfl, rfl⟩, (fin _ _).2.2, (fin 0 _).1, (fin 0 _).2.1⟩
/-- .. by a written number -/
theorem draw_lit {t : D} (m : Int) (ht : TapeOk t) (h0 : 0 < m := by decide) (hm : m < 2 ^ 100 := by decide) : ∃ v t', m_L_draw [t, .int m] = .ok (.int v) [t'] ∧ TapeOk t' ∧ 0 ≤ v ∧ v < m :=
  draw_ok ht h0 (by
    have h : m.natAbs < 2 ^ 100 := by omega
    have := (Nat.log2_lt (by omega)).mpr h
    omega)
end Lw

/-! Small numbers: draws by a length, places, the line of sizes. -/
namespace Lw
open Dt PySem
theorem line4 : (4 : Nat) ≤ sizeLine := line_pos (by decide)
theorem line5 : (5 : Nat) ≤ sizeLine := line_pos (by decide)
theorem line6 : (6 : Nat) ≤ sizeLine := line_pos (by decide)
theorem line7 : (7 : Nat) ≤ sizeLine := line_pos (by decide)
theorem line2 : (2 : Nat) ≤ sizeLine := line_pos (by decide)
/-- an item of a written list at a drawn place -/
theorem atI_in {α : Type} {xs : List α} {i : Int} (h0 : 0 ≤ i) (h : i < xs.length) : ∃ x, L2.atI xs i = some x ∧ x ∈ xs := by
  obtain ⟨j, hj⟩ : ∃ j : Nat, i = j := ⟨i.toNat, by omega⟩
  subst hj
  have hl : j < xs.length := by omega
  exact ⟨xs[j], L2.atI_nat (by simp [hl]), List.getElem_mem hl⟩
theorem line1 : (1 : Nat) ≤ sizeLine := line_pos (by decide)
theorem log_small {m : Nat} (h : m ≤ 100000) : (m : Int).natAbs.log2 < 9000 := by
  have h2 : ((m : Int)).natAbs = m := by omega
  rw [h2]
  by_cases h0 : m = 0
  · subst h0; decide
  · have := (Nat.log2_lt h0).mpr (show m < 2 ^ 100 by omega)
    omega
theorem draw_len {t : D} {m : Nat} (ht : TapeOk t) (h0 : 0 < m) (hm : m ≤ 100000) : ∃ k : Nat, ∃ t', m_L_draw [t, .int m] = .ok (.int k) [t'] ∧ TapeOk t' ∧ k < m := by
  obtain ⟨v, t', e, h, v0, v1⟩ := draw_ok ht (m := (m : Int)) (by omega) (log_small hm)
  obtain ⟨k, rfl⟩ : ∃ k : Nat, v = k := ⟨v.toNat, by omega⟩
  exact ⟨k, t', e, h, by omega⟩
theorem seqIndex_lt {k n : Nat} (h : k < n) : seqIndex? (k : Int) n = some k := by
  unfold seqIndex?
  simp [h]
  split <;> omega
theorem atI_at {α : Type} {xs : List α} {k : Nat} (h : k < xs.length) : L2.atI xs (k : Int) = some xs[k] := L2.atI_nat (by simp [h])
theorem ixN_at {n k : Nat} (h : k < n) : L2.ixN n (k : Int) = some k := by
  unfold L2.ixN
  simp [h]
theorem small_line {n : Nat} (h : n ≤ 100000) : n < sizeLine := Nat.lt_of_le_of_lt h (Nat.lt_of_lt_of_le (by decide : 100000 < 100001) (line_pos (by decide)))
end Lw

/-! Loops that check, lists that are compared with the empty one. -/
namespace Dt
open PySem
/-- a loop that leaves with False at the first item that fails -/
theorem for_check {I : Env → Prop} {g : SG} {s : SS} {p : D → Bool} : ∀ {ds : List D} {ρ : Env}, (∀ d ∈ ds, ∀ ρ, I ρ → ∃ ρ1 ρ2, g d ρ = .ok () ρ1 ∧ s ρ1 = .ok (if p d = true then .nx else .rt (.bl false)) ρ2 ∧ (p d = true → I ρ2)) → I ρ →
    ∃ ρ', forGo g s ds ρ = .ok (if ds.all p = true then .nx else .rt (.bl false)) ρ' ∧ (ds.all p = true → I ρ')
  | [], ρ, _, hi => ⟨ρ, rfl, fun _ => hi⟩
  | d :: ds, ρ, h, hi => by
    obtain ⟨ρ1, ρ2, e1, e2, i2⟩ := h d (List.mem_cons_self) ρ hi
    unfold forGo
    rw [e1, R.bind_ok, e2, R.bind_ok, List.all_cons]
    cases hp : p d with
    | false => exact ⟨ρ2, rfl, fun h => by cases h⟩
    | true => exact for_check (fun d hd => h d (List.mem_cons_of_mem _ hd)) (i2 hp)
theorem bls_map (f : D → Bool) : ∀ ds : List D, blsOf (ds.map fun d => .bl (f d)) = some (ds.map f)
  | [] => rfl
  | d :: ds => by
    rw [List.map_cons, blsOf_cons, bls_map f ds]
    rfl
theorem lst_ne {ds : List D} {m n : Nat} (h : ∀ d ∈ ds, Ok m n d) (hl : ds.length ≤ m) (hn : n ≤ 60) : eqD (.lst ds) (.lst []) = some ds.isEmpty := by
  rw [eqD_ok (m := m) (n := n + 1) (m' := m) (n' := n + 1) (ok_lst.mpr ⟨hl, h⟩) (ok_lst.mpr ⟨by simp, by simp⟩) (by omega) (by omega), eqv_lst_nil]
theorem filt_empty (p : D → Bool) (ps : List D) : (ps.filter fun d => !p d).isEmpty = ps.all p := by
  induction ps with
  | nil => rfl
  | cons d ds ih =>
    cases hd : p d with
    | true => rw [List.filter_cons_of_neg (by simp [hd]), ih, List.all_cons, hd, Bool.true_and]
    | false => rw [List.filter_cons_of_pos (by simp [hd]), List.all_cons, hd, Bool.false_and]; rfl
end Dt

/-! is_integer. -/
namespace Lw
open Dt PySem
def isI : D → Bool
  | .int _ => true
  | _ => false
theorem int_ok {d : D} {m n : Nat} (h : Ok m n d) : m_is_integer [d] = .ok (.bl (isI d)) [] := by
  cases d <;> first | (cases n <;> exact h.elim) | simp [m_is_integer, b_is_integer, runP, isT, isTn, tyN, isI]
end Lw

/-! What a name is. -/
namespace Lw
open Dt PySem
def low (c : Nat) : Bool := 97 ≤ c && c ≤ 122
def isN (d : D) : Bool := match d with
  | .str z => decide (1 ≤ z.length ∧ z.length ≤ 8) && z.cps.toList.all low
  | _ => false
def okB (o : Option D) (b : Bool) : Bool := match o with
  | some (.bl k) => k == b
  | _ => false
theorem okB_eq {o : Option D} {b : Bool} (h : okB o b = true) : o = some (.bl b) := by
  unfold okB at h
  split at h
  · rw [eq_of_beq h]
  · cases h
theorem in_letters (c : Nat) (h : c < 128) : gIn [.str ⟨#[c]⟩, .str "abcdefghijklmnopqrstuvwxyz"] = some (.bl (low c)) := okB_eq ((by decide +kernel : ∀ c < 128, okB (gIn [.str ⟨#[c]⟩, .str "abcdefghijklmnopqrstuvwxyz"]) (low c) = true) c h)
def lowD (d : D) : Bool := match d with
  | .str z => z.cps.toList.all low
  | _ => false
theorem signs_low (z : Str) : (signs z).all lowD = z.cps.toList.all low := by
  unfold signs
  rw [List.all_map]
  congr 1
  funext c
  simp [lowD]
theorem signs_len (z : Str) : (signs z).length = z.length := by
  unfold signs
  rw [List.length_map]
  exact Array.length_toList
theorem sign_of {z : Str} {d : D} (h : d ∈ signs z) (ha : ∀ c ∈ z.cps.toList, c < 128) : ∃ c, c < 128 ∧ d = .str ⟨#[c]⟩ ∧ lowD d = low c := by
  unfold signs at h
  obtain ⟨c, hc, rfl⟩ := List.mem_map.mp h
  exact ⟨c, ha c hc, rfl, by simp [lowD]⟩
theorem comp_name {z : Str} (hz : z.length ≤ 1000) (ha : ∀ c ∈ z.cps.toList, c < 128) : c0_is_name [.fro (.str z), .no] = .ok (.lst ((signs z).map fun d => .bl (lowD d))) [.fro (.str z), .no] := by
  have e := comp_map (vs := [1]) (g := gSet 1) (t := tT1) (s := sOps gIn (b2 (sLoc 1) (sVal (sCst (.str "abcdefghijklmnopqrstuvwxyz"))))) (f := fun d => .bl (lowD d)) (p := fun _ => true) (ρ := [.fro (.str z), .no]) (ds := signs z)
    (fun d hd => ⟨[.fro (.str z), .fro d], [.fro (.str z), .fro d], by simp, rfl, by simp [plainAt], by simp [wipeE], fun _ => ⟨[.fro (.str z), .fro d], by
      obtain ⟨c, hc, rfl, e⟩ := sign_of hd ha
      simp [in_letters c hc, e], by simp [plainAt], by simp [wipeE]⟩⟩)
  have hl : (signs z).length ≤ sizeLine := line_pos (by rw [signs_len]; omega)
  have hf : (signs z).filter (fun _ => true) = signs z := List.filter_eq_self.mpr (by simp)
  rw [hf] at e
  unfold c0_is_name sComp
  simp [itemsD, plainAt, hl, wipeE, e, backE]
theorem sign_ok {z : Str} {d : D} {n : Nat} (h : d ∈ signs z) (ha : ∀ c ∈ z.cps.toList, c < 128) : Ok 1000 n d := by
  obtain ⟨c, hc, rfl, _⟩ := sign_of h ha
  rw [ok_str]
  exact ⟨by show (1 : Nat) ≤ 1000; decide, fun x hx => by
    have : x = c := by simpa using hx
    omega⟩
theorem name_ok {d : D} {m n : Nat} (h : Ok m n d) (hm : m ≤ 1000) : m_is_name [d] = .ok (.bl (isN d)) [] := by
  show runP 2 1 b_is_name _ = _
  unfold runP b_is_name
  cases d with
  | str z =>
    obtain ⟨hz, ha⟩ := ok_str.mp h
    have s0 : z.length ≤ sizeLine := line_pos (by omega)
    have e := comp_name (z := z) (by omega) ha
    by_cases h1 : 1 ≤ z.length
    case neg =>
      have h1' : ¬ 1 ≤ (z.length : Int) := by omega
      simp [isT, isTn, tyN, gLen, gLe, lexI, s0, h1', h1, isN, D.truth]
    have h1' : 1 ≤ (z.length : Int) := by omega
    by_cases h8 : z.length ≤ 8
    case neg =>
      have h8' : ¬ (z.length : Int) ≤ 8 := by omega
      simp [isT, isTn, tyN, gLen, gLe, lexI, s0, h1', h1, h8, h8', isN, D.truth]
    have h8' : (z.length : Int) ≤ 8 := by omega
    have hs := signs_low z
    simp [isT, isTn, tyN, gLen, gLe, lexI, s0, h1', h1, h8, h8', isN, D.truth, e, gAll, bls_map]
    rw [hs]
    simp
  | fn _ => cases n <;> exact h.elim
  | exn _ => cases n <;> exact h.elim
  | nd _ _ => cases n <;> exact h.elim
  | _ => simp [isT, isTn, tyN, isN, D.truth]
end Lw

/-! Comprehensions and loops whose walked variable is one slot: the environment is read off the goal. -/
namespace Dt
open PySem
theorem wipe_set {ρ : Env} {i : Nat} {c : Cell} (h : ρ[i]? = some .no) : wipeE (ρ.set i c) [i] = ρ := by
  have hi : i < ρ.length := by
    cases Nat.lt_or_ge i ρ.length with
    | inl h => exact h
    | inr h' => rw [List.getElem?_eq_none h'] at h; cases h
  simp only [wipeE, List.set_set]
  apply List.ext_getElem?
  intro j
  by_cases e : i = j
  · subst e; rw [List.getElem?_set_self hi, h]
  · simp [e]
theorem plain_set {ρ : Env} {i : Nat} {d : D} (h : ρ[i]? = some .no) : plainAt (ρ.set i (.fro d)) [i] = true := by
  have hi : i < ρ.length := by
    cases Nat.lt_or_ge i ρ.length with
    | inl h => exact h
    | inr h' => rw [List.getElem?_eq_none h'] at h; cases h
  simp [plainAt, hi]
theorem set_gSet {ρ : Env} {i : Nat} {d : D} (h : ρ[i]? = some .no) : gSet i d ρ = .ok () (ρ.set i (.fro d)) := by
  rw [ev_gSet, h]
/-- a comprehension with one walked variable: f of the items that p keeps -/
theorem comp1 {i : Nat} {t : ST} {s : SE} {ρ : Env} {ds : List D} (f : D → D) (p : D → Bool) (h0 : ρ[i]? = some .no)
    (h : ∀ d ∈ ds, t (ρ.set i (.fro d)) = .ok (p d) (ρ.set i (.fro d)) ∧ (p d = true → s (ρ.set i (.fro d)) = .ok (f d) (ρ.set i (.fro d)))) :
    compGo [i] (gSet i) t s ds ρ = .ok ((ds.filter p).map f) ρ :=
  comp_map fun d hd => ⟨_, _, set_gSet h0, (h d hd).1, plain_set h0, wipe_set h0, fun hp => ⟨_, (h d hd).2 hp, plain_set h0, wipe_set h0⟩⟩
/-- .. without a test -/
theorem comp1a {i : Nat} {s : SE} {ρ : Env} {ds : List D} (f : D → D) (h0 : ρ[i]? = some .no)
    (h : ∀ d ∈ ds, s (ρ.set i (.fro d)) = .ok (f d) (ρ.set i (.fro d))) : compGo [i] (gSet i) tT1 s ds ρ = .ok (ds.map f) ρ := by
  rw [comp1 (t := tT1) f (fun _ => true) h0 fun d hd => ⟨rfl, fun _ => h d hd⟩, List.filter_eq_self.mpr fun _ _ => rfl]
/-- .. over coded items -/
theorem comp1e {α : Type} {enc : α → D} {i : Nat} {s : SE} {ρ : Env} {xs : List α} (F : α → D) (h0 : ρ[i]? = some .no)
    (h : ∀ x ∈ xs, s (ρ.set i (.fro (enc x))) = .ok (F x) (ρ.set i (.fro (enc x)))) : compGo [i] (gSet i) tT1 s (xs.map enc) ρ = .ok (xs.map F) ρ := by
  induction xs with
  | nil => rfl
  | cons x xs ih =>
    rw [List.map_cons]
    unfold compGo
    rw [set_gSet h0, R.bind_ok]
    show (s _).bind _ = _
    rw [h x (.head _), R.bind_ok, if_pos (plain_set h0), wipe_set h0, ih fun y hy => h y (.tail _ hy)]
    rfl
theorem comp1f {α : Type} {enc : α → D} {i : Nat} {t : ST} {s : SE} {ρ : Env} {xs : List α} (F : α → D) (p : α → Bool) (h0 : ρ[i]? = some .no)
    (h : ∀ x ∈ xs, t (ρ.set i (.fro (enc x))) = .ok (p x) (ρ.set i (.fro (enc x))) ∧ (p x = true → s (ρ.set i (.fro (enc x))) = .ok (F x) (ρ.set i (.fro (enc x))))) : compGo [i] (gSet i) t s (xs.map enc) ρ = .ok ((xs.filter p).map F) ρ := by
  induction xs with
  | nil => rfl
  | cons x xs ih =>
    have ih := ih fun y hy => h y (.tail _ hy)
    obtain ⟨h1, h2⟩ := h x (.head _)
    rw [List.map_cons]
    unfold compGo
    rw [set_gSet h0, R.bind_ok, h1, R.bind_ok]
    cases hp : p x with
    | false =>
      show (if plainAt _ _ = true then _ else _) = _
      rw [if_pos (plain_set h0), wipe_set h0, ih, List.filter_cons_of_neg (by simp [hp])]
    | true =>
      show (s _).bind _ = _
      rw [h2 hp, R.bind_ok, if_pos (plain_set h0), wipe_set h0, ih, List.filter_cons_of_pos (by simp [hp])]
      rfl
end Dt

/-! The law's turns: plain cells, statements one by one, where a turn lands. -/
namespace Dt
open PySem
/-- a cell that is no object of one's own -/
def pl : Option D → Cell
  | none => .no
  | some d => .fro d
/-- what may be set anew -/
def soft : Option Cell → Bool
  | some (.io _) => false
  | none => false
  | _ => true
@[simp] theorem soft_pl (x : Option D) : soft (some (pl x)) = true := by cases x <;> rfl
@[simp] theorem soft_no : soft (some .no) = true := rfl
@[simp] theorem soft_fro (d : D) : soft (some (.fro d)) = true := rfl
@[simp] theorem soft_own (d : D) : soft (some (.own d)) = true := rfl
theorem gSet_soft {i : Nat} {d : D} {ρ : Env} (h : soft ρ[i]? = true) : gSet i d ρ = .ok () (ρ.set i (.fro d)) := by
  rw [ev_gSet]
  generalize ρ[i]? = c at h
  rcases c with _ | c
  · cases h
  · cases c <;> first | rfl | cases h
theorem gOwn_soft {i : Nat} {d : D} {ρ : Env} (h : soft ρ[i]? = true) : gOwn i d ρ = .ok () (ρ.set i (.own d)) := by
  rw [ev_gOwn]
  generalize ρ[i]? = c at h
  rcases c with _ | c
  · cases h
  · cases c <;> first | rfl | cases h
/-- plain cells alone -/
def PlnA (cs : List Cell) : Prop := ∀ c ∈ cs, ∃ x, c = pl x
@[simp] theorem plnA_nil : PlnA [] := fun _ h => nomatch h
@[simp] theorem plnA_cons {c : Cell} {cs : List Cell} : PlnA (c :: cs) ↔ (∃ x, c = pl x) ∧ PlnA cs := List.forall_mem_cons
@[simp] theorem pln_fro (d : D) : ∃ x, Cell.fro d = pl x := ⟨some d, rfl⟩
@[simp] theorem pln_no : ∃ x, Cell.no = pl x := ⟨none, rfl⟩
@[simp] theorem pln_pl (y : Option D) : ∃ x, pl y = pl x := ⟨y, rfl⟩
theorem PlnA.map {cs : List Cell} (h : PlnA cs) : ∃ xs : List (Option D), cs = xs.map pl := by
  induction cs with
  | nil => exact ⟨[], rfl⟩
  | cons c cs ih =>
    obtain ⟨⟨x, rfl⟩, h2⟩ := plnA_cons.mp h
    obtain ⟨xs, rfl⟩ := ih h2
    exact ⟨x :: xs, rfl⟩
/-- what a comprehension's own cell may hold -/
def plainC : Option Cell → Bool
  | some .no => true
  | some (.fro _) => true
  | _ => false
@[simp] theorem plainC_pl (x : Option D) : plainC (some (pl x)) = true := by cases x <;> rfl
@[simp] theorem plainC_no : plainC (some .no) = true := rfl
@[simp] theorem plainC_fro (d : D) : plainC (some (.fro d)) = true := rfl
theorem plain_nil {ρ : Env} : plainAt ρ [] = true := rfl
theorem plain_cons {ρ : Env} {v : Nat} {vs : List Nat} : plainAt ρ (v :: vs) = (plainC ρ[v]? && plainAt ρ vs) := by
  unfold plainAt plainC
  rw [List.all_cons]
  all_goals (congr 1)
/-- a cell that may be set anew -/
inductive Sl | n | f (d : D) | o (d : D)
def sf : Sl → Cell
  | .n => .no
  | .f d => .fro d
  | .o d => .own d
@[simp] theorem soft_sf (x : Sl) : soft (some (sf x)) = true := by cases x <;> rfl
@[simp] theorem sf_no : ∃ x, Cell.no = sf x := ⟨.n, rfl⟩
@[simp] theorem sf_fro (d : D) : ∃ x, Cell.fro d = sf x := ⟨.f d, rfl⟩
@[simp] theorem sf_own (d : D) : ∃ x, Cell.own d = sf x := ⟨.o d, rfl⟩
@[simp] theorem sf_sf (y : Sl) : ∃ x, sf y = sf x := ⟨y, rfl⟩
@[simp] theorem sf_pl (y : Option D) : ∃ x, pl y = sf x := by
  cases y with
  | none => exact ⟨.n, rfl⟩
  | some d => exact ⟨.f d, rfl⟩
/-- plain where told so, else such as may be set anew -/
def Fits : List Bool → List Cell → Prop
  | [], [] => True
  | true :: bs, c :: cs => (∃ x, c = pl x) ∧ Fits bs cs
  | false :: bs, c :: cs => (∃ x, c = sf x) ∧ Fits bs cs
  | _, _ => False
@[simp] theorem fits_nil : Fits [] [] = True := rfl
@[simp] theorem fits_t {bs : List Bool} {c : Cell} {cs : List Cell} : Fits (true :: bs) (c :: cs) = ((∃ x, c = pl x) ∧ Fits bs cs) := rfl
@[simp] theorem fits_f {bs : List Bool} {c : Cell} {cs : List Cell} : Fits (false :: bs) (c :: cs) = ((∃ x, c = sf x) ∧ Fits bs cs) := rfl
theorem Fits.t {bs : List Bool} {cs : List Cell} (h : Fits (true :: bs) cs) : ∃ x cs', cs = pl x :: cs' ∧ Fits bs cs' := by
  cases cs with
  | nil => exact h.elim
  | cons c cs => obtain ⟨⟨x, rfl⟩, h⟩ := h; exact ⟨x, cs, rfl, h⟩
theorem Fits.f {bs : List Bool} {cs : List Cell} (h : Fits (false :: bs) cs) : ∃ x cs', cs = sf x :: cs' ∧ Fits bs cs' := by
  cases cs with
  | nil => exact h.elim
  | cons c cs => obtain ⟨⟨x, rfl⟩, h⟩ := h; exact ⟨x, cs, rfl, h⟩
theorem Fits.z {cs : List Cell} (h : Fits [] cs) : cs = [] := by
  cases cs with
  | nil => rfl
  | cons c cs => exact h.elim
theorem seq_nx {a b : SS} {ρ ρ' : Env} (h : a ρ = .ok .nx ρ') : sSeq a b ρ = b ρ' := by rw [ev_seq, h]; rfl
/-- a statement that goes on, to where Q holds -/
def Ends (r : R Fl) (Q : Env → Prop) : Prop := ∃ ρ', r = .ok .nx ρ' ∧ Q ρ'
theorem Ends.seq {a b : SS} {ρ ρ' : Env} {Q : Env → Prop} (h : a ρ = .ok .nx ρ') (k : Ends (b ρ') Q) : Ends (sSeq a b ρ) Q := by
  unfold Ends; rw [seq_nx h]; exact k
theorem Ends.seq' {a b : SS} {ρ : Env} {Q P : Env → Prop} (h : Ends (a ρ) P) (k : ∀ ρ', P ρ' → Ends (b ρ') Q) : Ends (sSeq a b ρ) Q := by
  obtain ⟨ρ', e, p⟩ := h
  exact Ends.seq e (k ρ' p)
theorem Ends.one {s : SS} {ρ ρ' : Env} {Q : Env → Prop} (h : s ρ = .ok .nx ρ') (q : Q ρ') : Ends (s ρ) Q := ⟨ρ', h, q⟩
end Dt
namespace Lw
open Dt PySem
theorem add_lst {a b : List D} (h : a.length + b.length ≤ 100000) : gAdd [.lst a, .lst b] = some (.lst (a ++ b)) := by
  show (if a.length + b.length ≤ sizeLine then some (D.lst (a ++ b)) else none) = _
  rw [if_pos (line_pos (by omega))]
theorem add_tup {a b : List D} (h : a.length + b.length ≤ 100000) : gAdd [.tup a, .tup b] = some (.tup (a ++ b)) := by
  show (if a.length + b.length ≤ sizeLine then some (D.tup (a ++ b)) else none) = _
  rw [if_pos (line_pos (by omega))]
/-- a turn's end: the script, the tape, plain cells -/
def Land (S : D) (n : Nat) (ρ : Dt.Env) : Prop := ∃ t cs, ρ = .fro S :: .own t :: cs ∧ TapeOk t ∧ cs.length = n ∧ PlnA cs
theorem land_turns {S : D} {n : Nat} {s : SS} {ds : List D} (h : ∀ d ∈ ds, ∀ (t : D) (xs : List (Option D)), TapeOk t → xs.length = n → Ends (s (.fro S :: .own t :: .fro d :: xs.map pl)) (Land S (n + 1))) {ρ : Dt.Env} (hρ : Land S (n + 1) ρ) : Ends (forGo (gSet 2) s ds ρ) (Land S (n + 1)) :=
  for_inv (fun d hd ρ ⟨t, cs, e, ht, hl, hc⟩ => by
    obtain ⟨xs, rfl⟩ := hc.map
    subst e
    cases xs with
    | nil => cases hl
    | cons x xs =>
      have g : gSet 2 d (.fro S :: .own t :: (x :: xs).map pl) = .ok () (.fro S :: .own t :: .fro d :: xs.map pl) := by
        rw [gSet_soft (by simp)]; rfl
      obtain ⟨ρ', e, hL⟩ := h d hd t xs ht (by simpa using hl)
      exact ⟨_, ρ', .nx, g, e, .inl rfl, hL⟩) hρ
/-- .. with cells as told -/
def LandM (S : D) (ms : List Bool) (ρ : Dt.Env) : Prop := ∃ t cs, ρ = .fro S :: .own t :: cs ∧ TapeOk t ∧ Fits ms cs
theorem landM_turns {S : D} {ms : List Bool} {s : SS} {ds : List D} (h : ∀ d ∈ ds, ∀ (t : D) (cs : List Cell), TapeOk t → Fits ms cs → Ends (s (.fro S :: .own t :: .fro d :: cs)) (LandM S (true :: ms))) {ρ : Dt.Env} (hρ : LandM S (true :: ms) ρ) : Ends (forGo (gSet 2) s ds ρ) (LandM S (true :: ms)) :=
  for_inv (fun d hd ρ ⟨t, cs, e, ht, hc⟩ => by
    obtain ⟨x, cs, rfl, hc2⟩ := hc.t
    subst e
    have g : gSet 2 d (.fro S :: .own t :: pl x :: cs) = .ok () (.fro S :: .own t :: .fro d :: cs) := by
      rw [gSet_soft (by simp)]; rfl
    obtain ⟨ρ', e, hL⟩ := h d hd t cs ht hc2
    exact ⟨_, ρ', .nx, g, e, .inl rfl, hL⟩) hρ
end Lw

/-! Texts once each, names: small facts. -/
namespace Dt
open PySem
theorem foldl_kind : ∀ (l σ : List Str), l.Nodup → l.foldl kindS σ = σ ++ l.filter fun k => !decide (k ∈ σ)
  | [], σ, _ => by simp
  | x :: l, σ, h => by
    obtain ⟨h1, h2⟩ := List.nodup_cons.mp h
    rw [List.foldl_cons, foldl_kind l _ h2]
    unfold kindS
    by_cases hx : x ∈ σ
    · rw [if_pos hx, List.filter_cons_of_neg (by simp [hx])]
    · rw [if_neg hx, List.filter_cons_of_pos (by simp [hx]), List.append_assoc, List.singleton_append]
      congr 2
      refine List.filter_congr fun y hy => ?_
      have : y ≠ x := fun e => h1 (e ▸ hy)
      simp [this]
theorem kinds_nd {l : List Str} (h : l.Nodup) : kinds l = l := by
  unfold kinds
  rw [foldl_kind l [] h]
  simp
@[simp] theorem keyOf_str (x : Str) : keyOf (.str x) = some (.inr x) := rfl
theorem dPut_kind (σ : List Str) (vs : List D) (x : Str) (z : D) : (dPut (σ.map Sum.inr) vs (Sum.inr x) z).1 = (kindS σ x).map (Sum.inr (α := Int)) := by
  have e : ((σ.map (Sum.inr (α := Int))).any fun k' => decide (k' = Sum.inr x)) = decide (x ∈ σ) := by
    rw [Bool.eq_iff_iff, List.any_eq_true, decide_eq_true_iff]
    constructor
    · rintro ⟨k, hk, e⟩
      obtain ⟨y, hy, rfl⟩ := List.mem_map.mp hk
      have e := of_decide_eq_true e
      cases e
      exact hy
    · exact fun h => ⟨_, List.mem_map.mpr ⟨x, h, rfl⟩, by simp⟩
  unfold dPut kindS
  rw [e]
  by_cases h : x ∈ σ
  · rw [if_pos (by simpa using h), if_pos h]
  · rw [if_neg (by simpa using h), if_neg h, List.map_append]
    rfl
end Dt
namespace Lw
open Dt PySem
/-- a text that is a name -/
def NmOk (x : Str) : Prop := (x.length ≤ 8 ∧ ∀ c ∈ x.cps.toList, c < 128) ∧ isN (.str x) = true
end Lw

/-! One of a list, drawn. -/
namespace Lw
open Dt PySem
theorem of_ok {t : D} {ds : List D} (h : TapeOk t) (h0 : 0 < ds.length) (h1 : ds.length ≤ 100000) : ∃ k t', ∃ hk : k < ds.length, m_L_of [t, .lst ds] = .ok ds[k] [t'] ∧ TapeOk t' := by
  obtain ⟨k, t', e, h', hk⟩ := draw_len h h0 h1
  refine ⟨k, t', hk, ?_, h'⟩
  show runI 2 2 b_L_of [t, .lst ds] = _
  unfold runI b_L_of
  simp [gLen, e, gIdx, idxD, atI_at hk, lastIo]
end Lw

/-! Counters as rows of keys with counts, without the program. -/
namespace Dt
open PySem
abbrev CL := List (Str × Int)
def keysC (C : CL) : List Str := C.map (·.1)
def look : CL → Str → Option Int
  | [], _ => none
  | p :: C, x => if p.1 = x then some p.2 else look C x
def val (C : CL) (x : Str) : Int := (look C x).getD 0
def mkC (ks : List Str) (f : Str → Option Int) : CL := ks.filterMap fun k => (f k).map fun c => (k, c)
def restK (A B : CL) : List Str := (keysC B).filter fun k => !decide (k ∈ keysC A)
def allK (A B : CL) : List Str := keysC A ++ restK A B
def joinC (w : Option Int → Option Int → Option Int) (A B : CL) : CL := mkC (allK A B) fun k => w (look A k) (look B k)
def posO (x : Int) : Option Int := if 0 < x then some x else none
def turnC (s : Int) (C : CL) : CL := C.filterMap fun p => (posO (s * p.2)).map fun c => (p.1, c)
def ctS (s : Int) : Option Int → Option Int → Option Int
  | none, none => none
  | a, b => some (a.getD 0 + s * b.getD 0)
def ctP (f : Int → Int → Int) : Option Int → Option Int → Option Int
  | none, none => none
  | a, b => posO (f (a.getD 0) (b.getD 0))
def mx (i j : Int) : Int := if j > i then j else i
def mn (i j : Int) : Int := if j < i then j else i
def ctL : Option Int → Option Int → Option Int
  | none, _ => none
  | a, b => posO (mn (a.getD 0) (b.getD 0))
def addC := joinC (ctP fun a b => a + b)
def lessC := joinC (ctP fun a b => a - b)
def mostC := joinC (ctP mx)
def leastC := joinC ctL
def updC := joinC (ctS 1)
def subC := joinC (ctS (-1))
def totC (C : CL) : Int := (C.map (·.2)).sum
/-- a counter whose keys the law draws, of at most so many keys -/
structure CV (P : Str → Prop) (n : Nat) (C : CL) : Prop where
  nd : (keysC C).Nodup
  keys : ∀ x ∈ keysC C, P x
  len : C.length ≤ n
def Prp (C : CL) : Prop := ∀ p ∈ C, 1 ≤ p.2
theorem look_cons {p : Str × Int} {C : CL} {x : Str} : look (p :: C) x = if p.1 = x then some p.2 else look C x := rfl
theorem look_none {C : CL} {x : Str} : look C x = none ↔ x ∉ keysC C := by
  induction C with
  | nil => simp [look, keysC]
  | cons p C ih =>
    unfold look
    by_cases h : p.1 = x
    · rw [if_pos h]; simp [keysC, h]
    · rw [if_neg h, ih]; simp [keysC, Ne.symm h]
theorem look_mem {C : CL} {x : Str} {c : Int} (h : look C x = some c) : (x, c) ∈ C := by
  induction C with
  | nil => cases h
  | cons p C ih =>
    unfold look at h
    split at h
    · rename_i e; cases h; subst e; exact .head _
    · exact .tail _ (ih h)
theorem look_of {C : CL} (nd : (keysC C).Nodup) {p : Str × Int} (h : p ∈ C) : look C p.1 = some p.2 := by
  induction C with
  | nil => cases h
  | cons q C ih =>
    have nd' : q.1 ∉ keysC C ∧ (keysC C).Nodup := List.nodup_cons.mp nd
    unfold look
    rcases List.mem_cons.mp h with rfl | h
    · rw [if_pos rfl]
    · rw [if_neg fun e => nd'.1 (by rw [e]; exact List.mem_map.mpr ⟨p, h, rfl⟩), ih nd'.2 h]
theorem Prp.lk {C : CL} (h : Prp C) {x : Str} {c : Int} (e : look C x = some c) : 1 ≤ c := h _ (look_mem e)
theorem look_mk {ks : List Str} {f : Str → Option Int} {x : Str} : look (mkC ks f) x = if x ∈ ks then f x else none := by
  induction ks with
  | nil => rfl
  | cons k ks ih =>
    unfold mkC at ih ⊢
    rw [List.filterMap_cons]
    by_cases e : k = x
    · subst e
      rw [if_pos (List.mem_cons_self)]
      cases ef : f k with
      | none =>
        simp only [Option.map_none]
        rw [ih, ef]; split <;> rfl
      | some c => simp [look]
    · have : (x ∈ k :: ks) = (x ∈ ks) := by simp [Ne.symm e]
      simp only [this]
      cases ef : f k with
      | none => simp only [Option.map_none]; exact ih
      | some c => simp only [Option.map_some]; unfold look; rw [if_neg e]; exact ih
theorem mem_allK {A B : CL} {x : Str} : x ∈ allK A B ↔ x ∈ keysC A ∨ x ∈ keysC B := by
  unfold allK restK
  rw [List.mem_append, List.mem_filter]
  by_cases h : x ∈ keysC A <;> simp [h]
theorem look_join {w : Option Int → Option Int → Option Int} (h0 : w none none = none) (A B : CL) (x : Str) : look (joinC w A B) x = w (look A x) (look B x) := by
  unfold joinC
  rw [look_mk]
  by_cases h : x ∈ allK A B
  · rw [if_pos h]
  · rw [if_neg h, mem_allK, not_or] at *
    rw [look_none.mpr h.1, look_none.mpr h.2, h0]
theorem look_turn {s : Int} {C : CL} (nd : (keysC C).Nodup) (x : Str) : look (turnC s C) x = (look C x).bind fun c => posO (s * c) := by
  induction C with
  | nil => rfl
  | cons p C ih =>
    have nd' : p.1 ∉ keysC C ∧ (keysC C).Nodup := List.nodup_cons.mp nd
    have ih := ih nd'.2
    unfold turnC at ih ⊢
    rw [List.filterMap_cons]
    by_cases e : p.1 = x
    · have hn : look C x = none := look_none.mpr (e ▸ nd'.1)
      rw [hn] at ih
      cases ef : posO (s * p.2) with
      | none => simp only [Option.map_none]; rw [ih]; simp [look, e, ef]
      | some c => simp [look, e, ef]
    · cases ef : posO (s * p.2) with
      | none => simp only [Option.map_none]; rw [ih]; simp [look, e]
      | some c => simp only [Option.map_some]; unfold look; rw [if_neg e, if_neg e]; exact ih
/-! ### keys -/
theorem keys_mk {ks : List Str} {f : Str → Option Int} : (keysC (mkC ks f)).Sublist ks := by
  induction ks with
  | nil => exact List.Sublist.slnil
  | cons k ks ih =>
    unfold mkC keysC at ih ⊢
    rw [List.filterMap_cons]
    cases f k with
    | none => exact ih.cons _
    | some c => exact ih.cons₂ _
theorem keys_turn {s : Int} {C : CL} : (keysC (turnC s C)).Sublist (keysC C) := by
  induction C with
  | nil => exact List.Sublist.slnil
  | cons p C ih =>
    unfold turnC keysC at ih ⊢
    rw [List.filterMap_cons]
    cases posO (s * p.2) with
    | none => exact ih.cons _
    | some c => exact ih.cons₂ _
theorem nd_allK {A B : CL} (a : (keysC A).Nodup) (b : (keysC B).Nodup) : (allK A B).Nodup := by
  unfold allK restK
  refine List.nodup_append.mpr ⟨a, b.sublist List.filter_sublist, fun x hx y hy e => ?_⟩
  subst e
  have := (List.mem_filter.mp hy).2
  simp [hx] at this
theorem len_keys {C : CL} : (keysC C).length = C.length := List.length_map ..
theorem CV.mono {P : Str → Prop} {n m : Nat} {C : CL} (h : CV P n C) (l : n ≤ m) : CV P m C := ⟨h.nd, h.keys, Nat.le_trans h.len l⟩
theorem CV.imp {P Q : Str → Prop} {n : Nat} {C : CL} (h : CV P n C) (w : ∀ x, P x → Q x) : CV Q n C := ⟨h.nd, fun x hx => w x (h.keys x hx), h.len⟩
theorem CV.join {P : Str → Prop} {n m : Nat} {A B : CL} (a : CV P n A) (b : CV P m B) (w : Option Int → Option Int → Option Int) : CV P (n + m) (joinC w A B) := by
  refine ⟨(nd_allK a.nd b.nd).sublist keys_mk, fun x hx => ?_, ?_⟩
  · rcases mem_allK.mp (keys_mk.subset hx) with h | h
    · exact a.keys x h
    · exact b.keys x h
  · show (joinC w A B).length ≤ n + m
    have h1 : (mkC (allK A B) fun k => w (look A k) (look B k)).length ≤ (allK A B).length := List.length_filterMap_le ..
    have h2 : (restK A B).length ≤ (keysC B).length := List.length_filter_le ..
    have h3 : (allK A B).length = (keysC A).length + (restK A B).length := List.length_append
    rw [len_keys] at h2 h3
    have := a.len
    have := b.len
    unfold joinC
    omega
theorem CV.turn {P : Str → Prop} {n : Nat} {C : CL} (h : CV P n C) (s : Int) : CV P n (turnC s C) :=
  ⟨h.nd.sublist keys_turn, fun x hx => h.keys x (keys_turn.subset hx), Nat.le_trans (List.length_filterMap_le ..) h.len⟩
theorem CV.nil {P : Str → Prop} {n : Nat} : CV P n [] := ⟨List.nodup_nil, fun _ h => (nomatch h), Nat.zero_le _⟩
/-! ### rows made of keys -/
theorem mk_congr {ks : List Str} {f g : Str → Option Int} (h : ∀ k ∈ ks, f k = g k) : mkC ks f = mkC ks g := by
  induction ks with
  | nil => rfl
  | cons k ks ih =>
    have ih := ih fun k hk => h k (.tail _ hk)
    unfold mkC at ih ⊢
    rw [List.filterMap_cons, List.filterMap_cons, h k (.head _), ih]
theorem mk_none {ks : List Str} {f : Str → Option Int} : mkC ks f = [] ↔ ∀ k ∈ ks, f k = none := by
  induction ks with
  | nil => simp [mkC]
  | cons k ks ih =>
    unfold mkC at ih ⊢
    rw [List.filterMap_cons]
    cases e : f k with
    | none => simp only [Option.map_none]; rw [ih]; simp [e]
    | some c => simp [e]
theorem mk_keys {C : CL} (nd : (keysC C).Nodup) : mkC (keysC C) (look C) = C := by
  have go : ∀ D : CL, (∀ p ∈ D, look C p.1 = some p.2) → mkC (keysC D) (look C) = D := fun D => by
    induction D with
    | nil => exact fun _ => rfl
    | cons p D ih =>
      intro h
      have ih := ih fun q hq => h q (.tail _ hq)
      unfold mkC keysC at ih ⊢
      rw [List.map_cons, List.filterMap_cons, h p (.head _), ih]
      rfl
  exact go C fun p hp => look_of nd hp
theorem mk_append {ks ls : List Str} {f : Str → Option Int} : mkC (ks ++ ls) f = mkC ks f ++ mkC ls f := List.filterMap_append ..
theorem turn_mk {s : Int} {ks : List Str} {f : Str → Option Int} : turnC s (mkC ks f) = mkC ks fun k => (f k).bind fun c => posO (s * c) := by
  unfold turnC mkC
  rw [List.filterMap_filterMap]
  congr 1
  funext k
  dsimp only
  cases e : f k with
  | none => rfl
  | some c => rfl
theorem keys_all {ks : List Str} {f : Str → Option Int} (h : ∀ k ∈ ks, (f k).isSome = true) : keysC (mkC ks f) = ks := by
  induction ks with
  | nil => rfl
  | cons k ks ih =>
    have ih := ih fun k hk => h k (.tail _ hk)
    have h0 := h k (.head _)
    unfold mkC keysC at ih ⊢
    rw [List.filterMap_cons]
    cases e : f k with
    | none => rw [e] at h0; cases h0
    | some c => simp only [Option.map_some, List.map_cons]; rw [ih]
/-! ### the laws -/
theorem posO_none {x : Int} : posO x = none ↔ x ≤ 0 := by
  unfold posO
  split
  · simp; omega
  · simp; omega
theorem posO_val (x : Int) : (posO x).getD 0 = mx 0 x := by
  unfold posO mx
  split <;> rfl
theorem add_law (A B : CL) : addC A B = turnC 1 (updC A B) := by
  unfold addC updC joinC
  rw [turn_mk]
  refine mk_congr fun k _ => ?_
  cases look A k <;> cases look B k <;> simp [ctP, ctS]
theorem less_law (A B : CL) : lessC A B = turnC 1 (subC A B) := by
  unfold lessC subC joinC
  rw [turn_mk]
  refine mk_congr fun k _ => ?_
  cases look A k <;> cases look B k <;> simp [ctP, ctS] <;> congr 1 <;> omega
theorem plus_plus (C : CL) : turnC 1 (turnC 1 C) = turnC 1 C := by
  unfold turnC
  rw [List.filterMap_filterMap]
  congr 1
  funext p
  unfold posO
  by_cases h : 0 < 1 * p.2
  · simp only [if_pos h, Option.map_some, Option.bind_some]
    rw [if_pos (by omega)]
    simp
  · simp only [if_neg h, Option.map_none, Option.bind_none]
theorem val_join {w : Option Int → Option Int → Option Int} (h0 : w none none = none) (A B : CL) (x : Str) : val (joinC w A B) x = (w (look A x) (look B x)).getD 0 := by
  unfold val
  rw [look_join h0]
theorem val_upd (A B : CL) (x : Str) : val (updC A B) x = val A x + val B x := by
  unfold updC
  rw [val_join rfl]
  unfold val
  cases look A x <;> cases look B x <;> simp [ctS]
theorem val_sub (A B : CL) (x : Str) : val (subC A B) x = val A x - val B x := by
  unfold subC
  rw [val_join rfl]
  unfold val
  cases look A x <;> cases look B x <;> simp [ctS] <;> omega
theorem val_add (A B : CL) (x : Str) : val (addC A B) x = mx 0 (val A x + val B x) := by
  unfold addC
  rw [val_join rfl]
  unfold val
  cases look A x <;> cases look B x <;> simp [ctP, posO_val, mx]
theorem val_less (A B : CL) (x : Str) : val (lessC A B) x = mx 0 (val A x - val B x) := by
  unfold lessC
  rw [val_join rfl]
  unfold val
  cases look A x <;> cases look B x <;> simp [ctP, posO_val, mx]
theorem val_most (A B : CL) (x : Str) : val (mostC A B) x = mx 0 (mx (val A x) (val B x)) := by
  unfold mostC
  rw [val_join rfl]
  unfold val
  cases look A x <;> cases look B x <;> simp [ctP, posO_val, mx]
theorem val_least (A B : CL) (x : Str) : val (leastC A B) x = if look A x = none then 0 else mx 0 (mn (val A x) (val B x)) := by
  unfold leastC
  rw [val_join rfl]
  unfold val
  cases look A x <;> cases look B x <;> simp [ctL, posO_val]
theorem val_turn {s : Int} {C : CL} (nd : (keysC C).Nodup) (x : Str) : val (turnC s C) x = mx 0 (s * val C x) := by
  unfold val
  rw [look_turn nd]
  cases look C x <;> simp [posO_val, mx]
theorem val_prp {C : CL} (h : Prp C) (x : Str) : 0 ≤ val C x := by
  unfold val
  cases e : look C x with
  | none => simp
  | some c => have := h.lk e; simp; omega
theorem val_none {C : CL} {x : Str} (h : look C x = none) : val C x = 0 := by unfold val; rw [h]; rfl
theorem Prp.turn {C : CL} : Prp (turnC 1 C) := fun p hp => by
  obtain ⟨q, _, e⟩ := List.mem_filterMap.mp hp
  unfold posO at e
  split at e
  · cases e; show 1 ≤ 1 * q.2; omega
  · cases e
/-- sums over keys -/
theorem sum_ind {L : List Str} (nd : L.Nodup) {k : Str} (h : k ∈ L) (c : Int) (f : Str → Int) : (L.map fun x => (if k = x then c else 0) + f x).sum = c + (L.map f).sum := by
  have none : ∀ M : List Str, k ∉ M → (M.map fun x => (if k = x then c else 0) + f x).sum = (M.map f).sum := fun M => by
    induction M with
    | nil => exact fun _ => rfl
    | cons y M ih =>
      intro hn
      have h1 : k ≠ y := fun e => hn (e ▸ .head _)
      rw [List.map_cons, List.map_cons, List.sum_cons, List.sum_cons, ih fun m => hn (.tail _ m), if_neg h1, Int.zero_add]
  induction L with
  | nil => cases h
  | cons y L ih =>
    obtain ⟨n1, n2⟩ := List.nodup_cons.mp nd
    rw [List.map_cons, List.map_cons, List.sum_cons, List.sum_cons]
    by_cases e : k = y
    · subst e
      rw [if_pos rfl, none L n1]; omega
    · rw [if_neg e, ih n2 ((List.mem_cons.mp h).resolve_left e)]; omega
theorem tot_over {C : CL} (nd : (keysC C).Nodup) {L : List Str} (nl : L.Nodup) (sub : ∀ x ∈ keysC C, x ∈ L) : (L.map (val C)).sum = totC C := by
  induction C with
  | nil =>
    have : ∀ M : List Str, (M.map (val [])).sum = 0 := fun M => by
      induction M with
      | nil => rfl
      | cons y M ih => rw [List.map_cons, List.sum_cons, ih]; rfl
    exact this L
  | cons p C ih =>
    obtain ⟨n1, n2⟩ : p.1 ∉ keysC C ∧ (keysC C).Nodup := List.nodup_cons.mp nd
    have e : val (p :: C) = fun x => (if p.1 = x then p.2 else 0) + val C x := by
      funext x
      unfold val
      show ((look (p :: C) x).getD 0 : Int) = _
      rw [look_cons]
      by_cases e : p.1 = x
      · rw [if_pos e, if_pos e, look_none.mpr (e ▸ n1)]; simp
      · rw [if_neg e, if_neg e, Int.zero_add]
    rw [e, sum_ind nl (sub _ (.head _)), ih n2 fun x hx => sub x (.tail _ hx)]
    show p.2 + totC C = totC (p :: C)
    unfold totC
    rw [List.map_cons, List.sum_cons]
theorem tot_mk {ks : List Str} {f : Str → Option Int} : totC (mkC ks f) = (ks.map fun k => (f k).getD 0).sum := by
  induction ks with
  | nil => rfl
  | cons k ks ih =>
    unfold mkC totC at ih ⊢
    rw [List.filterMap_cons, List.map_cons, List.sum_cons, ← ih]
    cases f k with
    | none => simp
    | some c => simp
theorem sum_add (f g : Str → Int) : ∀ L : List Str, (L.map fun x => f x + g x).sum = (L.map f).sum + (L.map g).sum
  | [] => rfl
  | x :: L => by rw [List.map_cons, List.map_cons, List.map_cons, List.sum_cons, List.sum_cons, List.sum_cons, sum_add f g L]; omega
theorem tot_upd {A B : CL} (a : (keysC A).Nodup) (b : (keysC B).Nodup) : totC (updC A B) = totC A + totC B := by
  have na := nd_allK a b
  rw [← tot_over a na fun x hx => mem_allK.mpr (.inl hx), ← tot_over b na fun x hx => mem_allK.mpr (.inr hx), ← sum_add]
  unfold updC joinC
  rw [tot_mk]
  congr 1
  refine List.map_congr_left fun k hk => ?_
  unfold val
  cases look A k <;> cases look B k <;> simp [ctS]
theorem keys_add {A B : CL} (a : Prp A) (b : Prp B) : keysC (addC A B) = allK A B := by
  refine keys_all fun k hk => ?_
  cases e1 : look A k with
  | none =>
    cases e2 : look B k with
    | none =>
      rcases mem_allK.mp hk with h | h
      · exact absurd h (look_none.mp e1)
      · exact absurd h (look_none.mp e2)
    | some c => have := b.lk e2; simp [ctP, posO]; omega
  | some c =>
    have h1 := a.lk e1
    cases e2 : look B k with
    | none => simp [ctP, posO]; omega
    | some d => have := b.lk e2; simp [ctP, posO]; omega
theorem Prp.join {f : Int → Int → Int} {A B : CL} : Prp (joinC (ctP f) A B) := fun p hp => by
  unfold joinC mkC at hp
  obtain ⟨k, _, e⟩ := List.mem_filterMap.mp hp
  have pos : ∀ x : Int, (posO x).map (fun c => (k, c)) = some p → 1 ≤ p.2 := fun x e => by
    unfold posO at e
    split at e
    · cases e; show 1 ≤ x; omega
    · cases e
  have e : (ctP f (look A k) (look B k)).map (fun c => (k, c)) = some p := e
  revert e
  cases look A k <;> cases look B k <;> intro e <;> first | exact pos _ e | cases e
theorem Prp.least {A B : CL} : Prp (leastC A B) := fun p hp => by
  unfold leastC joinC mkC at hp
  obtain ⟨k, _, e⟩ := List.mem_filterMap.mp hp
  have pos : ∀ x : Int, (posO x).map (fun c => (k, c)) = some p → 1 ≤ p.2 := fun x e => by
    unfold posO at e
    split at e
    · cases e; show 1 ≤ x; omega
    · cases e
  have e : (ctL (look A k) (look B k)).map (fun c => (k, c)) = some p := e
  revert e
  cases look A k <;> intro e <;> first | exact pos _ e | cases e
theorem add_assoc {A B C : CL} (a : Prp A) (b : Prp B) (c : Prp C) : addC (addC A B) C = addC A (addC B C) := by
  have k1 : allK (addC A B) C = allK A (addC B C) := by
    unfold allK restK
    rw [keys_add a b, keys_add b c]
    unfold allK restK
    rw [List.filter_append, List.append_assoc, List.filter_filter]
    congr 2
    refine List.filter_congr fun x _ => ?_
    rw [Bool.eq_iff_iff]
    simp only [Bool.not_eq_true', decide_eq_false_iff_not, Bool.and_eq_true, List.mem_append, List.mem_filter, not_or]
    constructor
    · intro h; exact ⟨h.1, fun hb => h.2 ⟨hb, h.1⟩⟩
    · intro h; exact ⟨h.1, fun hb => h.2 hb.1⟩
  show mkC (allK (addC A B) C) _ = mkC (allK A (addC B C)) _
  rw [k1]
  refine mk_congr fun k _ => ?_
  unfold addC
  rw [look_join rfl, look_join rfl]
  cases e1 : look A k with
  | none =>
    cases e2 : look B k with
    | none =>
      cases e3 : look C k with
      | none => simp [ctP]
      | some z => have := c.lk e3; simp [ctP, posO, show 0 < z by omega]
    | some y =>
      have := b.lk e2
      cases e3 : look C k with
      | none => simp [ctP, posO, show 0 < y by omega]
      | some z => have := c.lk e3; simp [ctP, posO, show 0 < y by omega, show 0 < y + z by omega]
  | some x =>
    have := a.lk e1
    cases e2 : look B k with
    | none =>
      cases e3 : look C k with
      | none => simp [ctP, posO, show 0 < x by omega]
      | some z => have := c.lk e3; simp [ctP, posO, show 0 < x by omega, show 0 < z by omega]
    | some y =>
      have := b.lk e2
      cases e3 : look C k with
      | none => simp [ctP, posO, show 0 < y by omega, show 0 < x + y by omega]
      | some z => have := c.lk e3; simp [ctP, posO, show 0 < y + z by omega, show 0 < x + y by omega, Int.add_assoc]
theorem less_add {A B : CL} (na : (keysC A).Nodup) (a : Prp A) (b : Prp B) : lessC (addC A B) B = A := by
  have r : restK (addC A B) B = [] := by
    unfold restK
    rw [List.filter_eq_nil_iff, keys_add a b]
    intro x hx
    simp [mem_allK.mpr (.inr hx)]
  show mkC (keysC (addC A B) ++ restK (addC A B) B) _ = A
  rw [r, List.append_nil, keys_add a b]
  show mkC (keysC A ++ restK A B) _ = A
  rw [mk_append]
  have e1 : mkC (restK A B) (fun k => ctP (fun a b => a - b) (look (addC A B) k) (look B k)) = [] := mk_none.mpr fun k hk => by
    obtain ⟨h1, h2⟩ := List.mem_filter.mp hk
    have ha : look A k = none := look_none.mpr (by simpa using h2)
    unfold addC
    rw [look_join rfl, ha]
    cases e2 : look B k with
    | none => exact absurd h1 (look_none.mp e2)
    | some y => have := b.lk e2; simp [ctP, posO, show 0 < y by omega]
  rw [e1, List.append_nil]
  refine (mk_congr fun k hk => ?_).trans (mk_keys na)
  unfold addC
  rw [look_join rfl]
  cases e2 : look A k with
  | none => exact absurd hk (look_none.mp e2)
  | some x =>
    have := a.lk e2
    cases e3 : look B k with
    | none => simp [ctP, posO, show 0 < x by omega]
    | some y => have := b.lk e3; simp [ctP, posO, show 0 < x + y by omega, show x + y - y = x by omega, show 0 < x by omega]
theorem less_nil {A B : CL} : lessC A B = [] ↔ ∀ x ∈ allK A B, val A x ≤ val B x := by
  unfold lessC joinC
  rw [mk_none]
  refine forall_congr' fun x => forall_congr' fun hx => ?_
  unfold val
  cases e1 : look A x with
  | none =>
    cases e2 : look B x with
    | none =>
      rcases mem_allK.mp hx with h | h
      · exact absurd h (look_none.mp e1)
      · exact absurd h (look_none.mp e2)
    | some c => simp [ctP, posO_none]
  | some a => cases e2 : look B x <;> simp [ctP, posO_none] <;> omega
end Dt

/-! What a counter is: the program's check and the law's check are one. -/
namespace Dt
open PySem
end Dt
namespace Lw
open Dt PySem
@[simp] theorem atI_c0 {α : Type} (a : α) (as : List α) : L2.atI (a :: as) 0 = some a := (L2.atI_nat (xs := a :: as) (j := 0) rfl : L2.atI (a :: as) ((0 : Nat) : Int) = some a)
theorem atI_c1 {α : Type} (a b : α) : L2.atI [a, b] 1 = some b := rfl
theorem ge3 (n : Nat) : ((n : Int) + 1 + 1 + 1 == 2) = false := by
  have : (n : Int) + 1 + 1 + 1 ≠ 2 := by omega
  simpa using this
def rowC (d : D) : Bool := match d with
  | .tup [k, i] => isN k && isI i
  | _ => false
def keyS (d : D) : Str := match d with
  | .tup [.str z, _] => z
  | _ => Str.empty
def cntS (d : D) : Bool := match d with
  | .tup ds => ds.all rowC && decide ((kinds (ds.map keyS)).length = ds.length)
  | _ => false
theorem rowC_form {d : D} (h : rowC d = true) : ∃ z i, d = .tup [.str z, .int i] ∧ keyS d = z := by
  unfold rowC at h
  split at h
  · rename_i k i
    rw [Bool.and_eq_true] at h
    obtain ⟨h1, h2⟩ := h
    cases k with
    | str z =>
      cases i with
      | int i => exact ⟨z, i, rfl, rfl⟩
      | _ => cases h2
    | _ => cases h1
  · cases h
theorem row_prog {th r : D} {m n : Nat} (h : Ok m n r) (hm : m ≤ 1000) : t0_is_counter [.fro th, .fro r] = .ok (if rowC r = true then .nx else .rt (.bl false)) [.fro th, .fro r] := by
  unfold t0_is_counter
  cases r with
  | tup ds =>
    rcases ds with _ | ⟨a, _ | ⟨b, _ | ⟨c, q⟩⟩⟩
    · simp [isT, isTn, tyN, gLen, gNe, rowC]
    · simp [isT, isTn, tyN, gLen, gNe, rowC]
    · obtain ⟨n, rfl⟩ : ∃ j, n = j + 1 := by
        cases n with
        | zero => exact h.elim
        | succ n => exact ⟨n, rfl⟩
      have oa := (ok_tup.mp h).2 a (by simp)
      have ea := name_ok oa hm
      have eb := int_ok ((ok_tup.mp h).2 b (by simp))
      cases ha : isN a with
      | false =>
        rw [ha] at ea
        simp [isT, isTn, tyN, gLen, gNe, gIdx, idxD, atI_c1, rowC, ha, ea, D.truth]
      | true =>
        rw [ha] at ea
        cases hb : isI b with
        | false =>
          rw [hb] at eb
          simp [isT, isTn, tyN, gLen, gNe, gIdx, idxD, atI_c1, rowC, ha, hb, ea, eb, D.truth]
        | true =>
          rw [hb] at eb
          simp [isT, isTn, tyN, gLen, gNe, gIdx, idxD, atI_c1, rowC, ha, hb, ea, eb, D.truth]
    · simp [isT, isTn, tyN, gLen, gNe, rowC, ge3]
  | arg _ => cases n <;> exact h.elim
  | fn _ => cases n <;> exact h.elim
  | exn _ => cases n <;> exact h.elim
  | nd _ _ => cases n <;> exact h.elim
  | _ => simp [isT, isTn, tyN, rowC]
theorem dict_go {th : D} : ∀ (rows : List D) (σ : List Str) (vs : List D), (∀ r ∈ rows, rowC r = true) →
    ∃ vs', dcompGo [1] (gSet 1) tT1 (sOps gIdx (b2 (sLoc 1) (sVal (sCst (.int 0))))) (sCst (.bl true)) rows (σ.map Sum.inr, vs) [.fro th, .no] = .ok (((rows.map keyS).foldl kindS σ).map Sum.inr, vs') [.fro th, .no]
  | [], σ, vs, _ => ⟨vs, rfl⟩
  | r :: rows, σ, vs, h => by
    obtain ⟨z, i, rfl, e⟩ := rowC_form (h r (.head _))
    have g : gSet 1 (.tup [.str z, .int i]) [.fro th, .no] = .ok () [.fro th, .fro (.tup [.str z, .int i])] := by simp
    have k : sOps gIdx (b2 (sLoc 1) (sVal (sCst (.int 0)))) [.fro th, .fro (.tup [.str z, .int i])] = .ok (.str z) [.fro th, .fro (.tup [.str z, .int i])] := by simp [gIdx, idxD]
    obtain ⟨vs', ih⟩ := dict_go (th := th) rows (kindS σ z) (dPut (σ.map Sum.inr) vs (Sum.inr z) (.bl true)).2 fun r hr => h r (.tail _ hr)
    refine ⟨vs', ?_⟩
    unfold dcompGo
    rw [g, R.bind_ok]
    rw [show tT1 [.fro th, .fro (.tup [.str z, .int i])] = .ok true [.fro th, .fro (.tup [.str z, .int i])] from rfl, R.bind_ok]
    dsimp only
    rw [k, R.bind_ok, ev_cst, R.bind_ok]
    dsimp only [keyOf]
    rw [if_pos (by simp [plainAt]), List.map_cons, List.foldl_cons, e]
    have w : dPut (σ.map Sum.inr) vs (Sum.inr z) (.bl true) = ((kindS σ z).map Sum.inr, (dPut (σ.map Sum.inr) vs (Sum.inr z) (.bl true)).2) := by
      rw [← dPut_kind σ vs z (.bl true)]
    rw [w]
    exact ih
theorem comp_dict {ds : List D} {c : Cell} (hc : c = .no ∨ ∃ d, c = .fro d) (hl : ds.length ≤ 100000) (h : ds.all rowC = true) : ∃ vs, c0_is_counter [.fro (.tup ds), c] = .ok (.dct ((kinds (ds.map keyS)).map Sum.inr) vs) [.fro (.tup ds), c] := by
  obtain ⟨vs, e⟩ := dict_go (th := .tup ds) ds [] [] fun r hr => List.all_eq_true.mp h r hr
  have hs : ds.length ≤ sizeLine := line_pos (by omega)
  have e' : dcompGo [1] (gSet 1) tT1 (sOps gIdx (b2 (sLoc 1) (sVal (sCst (.int 0))))) (sCst (.bl true)) ds ([], []) [.fro (.tup ds), .no] = .ok ((kinds (ds.map keyS)).map Sum.inr, vs) [.fro (.tup ds), .no] := e
  refine ⟨vs, ?_⟩
  unfold c0_is_counter sDComp
  rcases hc with rfl | ⟨x, rfl⟩ <;> simp [itemsD, plainAt, hs, wipeE, e', backE, noX]
theorem loop_cells {ds : List D} {m n : Nat} {s : SS} (ho : ∀ d ∈ ds, Ok m n d) (hr : ∀ {th r : D}, Ok m n r → s [.fro th, .fro r] = .ok (if rowC r = true then .nx else .rt (.bl false)) [.fro th, .fro r]) :
    ∃ ρ, forGo (gSet 1) s ds [.fro (.tup ds), .no] = .ok (if ds.all rowC = true then .nx else .rt (.bl false)) ρ ∧ (ds.all rowC = true → ∃ c, ρ = [.fro (.tup ds), c] ∧ (c = .no ∨ ∃ d, c = .fro d)) :=
  for_check (I := fun ρ => ∃ c, ρ = [.fro (.tup ds), c] ∧ (c = .no ∨ ∃ d, c = .fro d)) (p := rowC)
    (fun d hd ρ ⟨c, hρ, hc⟩ => ⟨[.fro (.tup ds), .fro d], [.fro (.tup ds), .fro d], by subst hρ; rcases hc with rfl | ⟨x, rfl⟩ <;> simp, hr (ho d hd), fun _ => ⟨.fro d, rfl, .inr ⟨d, rfl⟩⟩⟩) ⟨.no, rfl, .inl rfl⟩
theorem cnt_ok {d : D} {m n : Nat} (h : Ok m n d) (hm : m ≤ 1000) : m_is_counter [d] = .ok (.bl (cntS d)) [] := by
  show runP 2 1 b_is_counter _ = _
  unfold runP b_is_counter l0_is_counter sFor
  cases d with
  | tup ds =>
    obtain ⟨n, rfl⟩ : ∃ j, n = j + 1 := by
      cases n with
      | zero => exact h.elim
      | succ n => exact ⟨n, rfl⟩
    obtain ⟨hl, hd⟩ := ok_tup.mp h
    obtain ⟨ρ, e, hρ⟩ := loop_cells (s := t0_is_counter) hd fun {th r} ho => row_prog (th := th) ho hm
    cases ha : ds.all rowC with
    | false =>
      rw [ha] at e
      simp [isT, isTn, tyN, itemsD, e, cntS, ha, D.truth]
    | true =>
      obtain ⟨c, rfl, hc⟩ := hρ ha
      rw [ha, if_pos rfl] at e
      obtain ⟨vs, e2⟩ := comp_dict hc (by omega) ha
      simp [isT, isTn, tyN, itemsD, e, cntS, ha, D.truth, e2, gLen, gEq]
      exact Bool.eq_iff_iff.mpr (by rw [decide_eq_true_iff, beq_iff_eq]; omega)
  | arg _ => cases n <;> exact h.elim
  | fn _ => cases n <;> exact h.elim
  | exn _ => cases n <;> exact h.elim
  | nd _ _ => cases n <;> exact h.elim
  | _ => simp [isT, isTn, tyN, cntS, D.truth]
end Lw

/-! Drawn keys, drawn counters. -/
namespace Dt
open PySem
/-- the counts, with one put -/
def putC (σ : List Str) (cs : List Int) (x : Str) (v : Int) : List Int := if x ∈ σ then List.zipWith (fun k c => if k = x then v else c) σ cs else cs ++ [v]
theorem dPut_cnt (σ : List Str) (cs : List Int) (x : Str) (v : Int) : dPut (σ.map Sum.inr) (cs.map D.int) (Sum.inr x) (.int v) = ((kindS σ x).map (Sum.inr (α := Int)), (putC σ cs x v).map D.int) := by
  have e : ((σ.map (Sum.inr (α := Int))).any fun k' => decide (k' = Sum.inr x)) = decide (x ∈ σ) := by
    rw [Bool.eq_iff_iff, List.any_eq_true, decide_eq_true_iff]
    constructor
    · rintro ⟨k, hk, e⟩
      obtain ⟨y, hy, rfl⟩ := List.mem_map.mp hk
      have e := of_decide_eq_true e
      cases e
      exact hy
    · exact fun h => ⟨_, List.mem_map.mpr ⟨x, h, rfl⟩, by simp⟩
  unfold dPut kindS putC
  rw [e]
  by_cases h : x ∈ σ
  · rw [if_pos (by simpa using h), if_pos h, if_pos h]
    refine Prod.ext rfl ?_
    show List.zipWith _ (σ.map Sum.inr) (cs.map D.int) = (List.zipWith _ σ cs).map D.int
    rw [List.zipWith_map_left, List.zipWith_map_right, List.map_zipWith]
    congr 1
    funext k c
    by_cases hk : k = x
    · simp [hk]
    · have : ¬ (Sum.inr k : L2.Key) = Sum.inr x := fun q => hk (Sum.inr.inj q)
      rw [if_neg hk, if_neg this]
  · rw [if_neg (by simpa using h), if_neg h, if_neg h, List.map_append, List.map_append]
    rfl
/-- a counter's keys and counts -/
structure CntV (P : Str → Prop) (R : Int → Prop) (k : Nat) (σ : List Str) (cs : List Int) : Prop where
  nd : σ.Nodup
  keys : ∀ x ∈ σ, P x
  len : σ.length = cs.length
  cnts : ∀ c ∈ cs, R c
  most : σ.length ≤ k
theorem CntV.nil {P : Str → Prop} {R : Int → Prop} {k : Nat} : CntV P R k [] [] := ⟨List.nodup_nil, by simp, rfl, by simp, Nat.zero_le _⟩
theorem CntV.put {P : Str → Prop} {R : Int → Prop} {k : Nat} {σ : List Str} {cs : List Int} (h : CntV P R k σ cs) {x : Str} {v : Int} (hx : P x) (hv : R v) : CntV P R (k + 1) (kindS σ x) (putC σ cs x v) := by
  obtain ⟨nd, keys, len, cnts, most⟩ := h
  refine ⟨?_, fun y hy => (mem_kindS.mp hy).elim (keys y) fun e => e ▸ hx, ?_, fun c hc => ?_, ?_⟩
  · unfold kindS
    split
    · exact nd
    · rename_i hn
      exact List.nodup_append.mpr ⟨nd, by simp, fun a ha b hb e => hn (by rw [List.mem_singleton.mp hb] at e; rw [← e]; exact ha)⟩
  · rw [len_kindS]
    unfold putC
    split
    · rw [List.length_zipWith, ← len, Nat.min_self]
    · rw [List.length_append, len]; rfl
  · unfold putC at hc
    split at hc
    · obtain ⟨k, c', hm, rfl⟩ : ∃ k c', c' ∈ cs ∧ (if k = x then v else c') = c := by
        clear len keys nd most
        induction σ generalizing cs with
        | nil => cases hc
        | cons s σ ih =>
          cases cs with
          | nil => cases hc
          | cons d cs =>
            rw [List.zipWith_cons_cons] at hc
            rcases List.mem_cons.mp hc with rfl | hc
            · exact ⟨s, d, .head _, rfl⟩
            · rename_i hin
              by_cases hs : x ∈ σ
              · obtain ⟨k, c', m, e⟩ := ih (fun c h => cnts c (.tail _ h)) hs hc
                exact ⟨k, c', .tail _ m, e⟩
              · have go : ∀ (σ : List Str) (cs : List Int), c ∈ List.zipWith (fun k c => if k = x then v else c) σ cs → ∃ k c', c' ∈ cs ∧ (if k = x then v else c') = c := fun σ => by
                  induction σ with
                  | nil => intro cs h; cases h
                  | cons s σ ih2 =>
                    intro cs h
                    cases cs with
                    | nil => cases h
                    | cons d cs =>
                      rw [List.zipWith_cons_cons] at h
                      rcases List.mem_cons.mp h with rfl | h
                      · exact ⟨s, d, .head _, rfl⟩
                      · obtain ⟨k, c', m, e⟩ := ih2 cs h
                        exact ⟨k, c', .tail _ m, e⟩
                obtain ⟨k, c', m, e⟩ := go σ cs hc
                exact ⟨k, c', .tail _ m, e⟩
      split
      · exact hv
      · exact cnts _ hm
    · rcases List.mem_append.mp hc with hc | hc
      · exact cnts c hc
      · rw [List.mem_singleton.mp hc]; exact hv
  · rw [len_kindS]
    split <;> omega
/-- the tuple of pairs -/
def cntT (σ : List Str) (cs : List Int) : List D := List.zipWith (fun k c => .tup [.str k, .int c]) σ cs
theorem pairs_cnt : ∀ (σ : List Str) (cs : List Int), pairsD (σ.map Sum.inr) (cs.map D.int) = cntT σ cs
  | [], _ => rfl
  | _ :: _, [] => rfl
  | k :: σ, c :: cs => by
    have ih := pairs_cnt σ cs
    unfold pairsD cntT at ih ⊢
    rw [List.map_cons, List.map_cons, List.zipWith_cons_cons, List.zipWith_cons_cons, ih]
    rfl
theorem cntT_mem {d : D} : ∀ {σ : List Str} {cs : List Int}, d ∈ cntT σ cs → ∃ k c, k ∈ σ ∧ c ∈ cs ∧ d = .tup [.str k, .int c]
  | [], _, h => by cases h
  | _ :: _, [], h => by cases h
  | k :: σ, c :: cs, h => by
    unfold cntT at h
    rw [List.zipWith_cons_cons] at h
    rcases List.mem_cons.mp h with rfl | h
    · exact ⟨k, c, .head _, .head _, rfl⟩
    · obtain ⟨k', c', m, m', e⟩ := cntT_mem (σ := σ) (cs := cs) h
      exact ⟨k', c', .tail _ m, .tail _ m', e⟩
end Dt
namespace Lw
open Dt PySem
theorem near_ok {t : D} {w : Int} (h : TapeOk t) (w0 : 0 ≤ w) (w1 : w ≤ 100000000000000000000) : ∃ v t', m_L_near [t, .int w] = .ok (.int v) [t'] ∧ TapeOk t' ∧ -w ≤ v ∧ v ≤ w := by
  have c := mulA_l 2 w (by decide) (by decide)
  obtain ⟨v, t', e, h', v0, v1⟩ := draw_lit (2 * w + 1) h (by omega) (by omega)
  refine ⟨v - w, t', ?_, h', by omega, by omega⟩
  show runI 2 2 b_L_near [t, .int w] = _
  unfold runI b_L_near
  simp [gMul, c, gAdd, e, gSub, gI, lastIo]
def keyW : List Str := ["x", "y", "z", "w", "add", "zzzzzzzz"]
theorem key_ok {t : D} (h : TapeOk t) : ∃ x t', m_L_key [t] = .ok (.str x) [t'] ∧ TapeOk t' ∧ x ∈ keyW := by
  obtain ⟨k, t', hk, e, h'⟩ := of_ok (ds := [.str "x", .str "y", .str "z", .str "w", .str "add", .str "zzzzzzzz"]) h (by simp) (by simp)
  have : ∃ x, x ∈ keyW ∧ ([.str "x", .str "y", .str "z", .str "w", .str "add", .str "zzzzzzzz"] : List D)[k] = .str x := by
    have hk' : k < 6 := by simpa using hk
    match k, hk' with
    | 0, _ => exact ⟨"x", by simp [keyW], rfl⟩
    | 1, _ => exact ⟨"y", by simp [keyW], rfl⟩
    | 2, _ => exact ⟨"z", by simp [keyW], rfl⟩
    | 3, _ => exact ⟨"w", by simp [keyW], rfl⟩
    | 4, _ => exact ⟨"add", by simp [keyW], rfl⟩
    | 5, _ => exact ⟨"zzzzzzzz", by simp [keyW], rfl⟩
  obtain ⟨x, hx, ex⟩ := this
  rw [ex] at e
  refine ⟨x, t', ?_, h', hx⟩
  show runI 1 1 b_L_key [t] = _
  unfold runI b_L_key
  simp [e, lastIo, line6]
def CntR (p : Bool) (c : Int) : Prop := -100000000000000000000 ≤ c ∧ c ≤ 100000000000000000000 ∧ (p = true → 1 ≤ c)
theorem cnt_turn {t d : D} {lim : Cell} {p : Bool} {σ : List Str} {cs : List Int} {k : Nat} {c5 : Cell} (h : TapeOk t) (v : CntV (· ∈ keyW) (CntR p) k σ cs) (hk : k ≤ 1000) (h5 : c5 = .no ∨ ∃ x, c5 = .fro x) :
    ∃ t' σ' cs' x5, t0_L_counter [.io t, lim, .fro (.bl p), .own (.dct (σ.map Sum.inr) (cs.map D.int)), .fro d, c5] = .ok .nx [.io t', lim, .fro (.bl p), .own (.dct (σ'.map Sum.inr) (cs'.map D.int)), .fro d, .fro x5] ∧ TapeOk t' ∧ CntV (· ∈ keyW) (CntR p) (k + 1) σ' cs' := by
  obtain ⟨a, t1, e1, h1, a0, a3⟩ := draw_lit 3 h
  obtain ⟨w, ew, w0, w1⟩ : ∃ w : Int, L2.atI [D.int 2, .int 5, .int 100000000000000000000] a = some (.int w) ∧ 2 ≤ w ∧ w ≤ 100000000000000000000 := by
    have : a = 0 ∨ a = 1 ∨ a = 2 := by omega
    rcases this with rfl | rfl | rfl
    · exact ⟨2, rfl, by decide, by decide⟩
    · exact ⟨5, rfl, by decide, by decide⟩
    · exact ⟨_, rfl, by decide, by decide⟩
  have cp : L2.CPow 10 20 := ⟨by decide, by decide, by decide⟩
  have hs : σ.length < sizeLine := Nat.lt_of_le_of_lt v.most (small_line (by omega))
  cases p with
  | true =>
    obtain ⟨b, t2, e2, h2, b0, b1⟩ := draw_lit w h1 (by omega) (by omega)
    obtain ⟨x, t3, e3, h3, hx⟩ := key_ok h2
    have nv := v.put (x := x) (v := 1 + b) hx ⟨by omega, by omega, fun _ => by omega⟩
    refine ⟨t3, kindS σ x, putC σ cs x (1 + b), .int w, ?_, h3, nv⟩
    unfold t0_L_counter
    rcases h5 with rfl | ⟨z, rfl⟩ <;> simp [e1, gPow, gI, cp, gIdx, idxD, ew, D.truth, e2, gAdd, e3, putD, hs, dPut_cnt, line_pos]
  | false =>
    obtain ⟨b, t2, e2, h2, b0, b1⟩ := near_ok h1 (w := w) (by omega) w1
    obtain ⟨x, t3, e3, h3, hx⟩ := key_ok h2
    have nv := v.put (x := x) (v := b) hx ⟨by omega, by omega, fun q => by cases q⟩
    refine ⟨t3, kindS σ x, putC σ cs x b, .int w, ?_, h3, nv⟩
    unfold t0_L_counter
    rcases h5 with rfl | ⟨z, rfl⟩ <;> simp [e1, gPow, gI, cp, gIdx, idxD, ew, D.truth, e2, e3, putD, hs, dPut_cnt, line_pos]
theorem cnt_loop {lim : Cell} {p : Bool} : ∀ (ds : List D) {t : D} {σ : List Str} {cs : List Int} {k : Nat} {c4 c5 : Cell}, TapeOk t → CntV (· ∈ keyW) (CntR p) k σ cs → k + ds.length ≤ 1000 → (c4 = .no ∨ ∃ x, c4 = .fro x) → (c5 = .no ∨ ∃ x, c5 = .fro x) →
    ∃ t' σ' cs' c4' c5', forGo (gSet 4) t0_L_counter ds [.io t, lim, .fro (.bl p), .own (.dct (σ.map Sum.inr) (cs.map D.int)), c4, c5] = .ok .nx [.io t', lim, .fro (.bl p), .own (.dct (σ'.map Sum.inr) (cs'.map D.int)), c4', c5'] ∧ TapeOk t' ∧ CntV (· ∈ keyW) (CntR p) (k + ds.length) σ' cs'
  | [], t, σ, cs, k, c4, c5, h, v, _, _, _ => ⟨t, σ, cs, c4, c5, rfl, h, v⟩
  | d :: ds, t, σ, cs, k, c4, c5, h, v, hk, h4, h5 => by
    rw [List.length_cons] at hk
    obtain ⟨t1, σ1, cs1, x5, e1, h1, v1⟩ := cnt_turn (d := d) (lim := lim) h v (by omega) h5
    obtain ⟨t2, σ2, cs2, c4', c5', e2, h2, v2⟩ := cnt_loop (lim := lim) ds (c4 := .fro d) (c5 := .fro x5) h1 v1 (by omega) (.inr ⟨d, rfl⟩) (.inr ⟨x5, rfl⟩)
    refine ⟨t2, σ2, cs2, c4', c5', ?_, h2, by rw [List.length_cons, show k + (ds.length + 1) = k + 1 + ds.length by omega]; exact v2⟩
    unfold forGo
    have g : gSet 4 d [.io t, lim, .fro (.bl p), .own (.dct (σ.map Sum.inr) (cs.map D.int)), c4, c5] = .ok () [.io t, lim, .fro (.bl p), .own (.dct (σ.map Sum.inr) (cs.map D.int)), .fro d, c5] := by
      rcases h4 with rfl | ⟨x, rfl⟩ <;> simp
    rw [g, R.bind_ok, e1, R.bind_ok]
    exact e2
theorem counter_ok {t : D} {lim : Nat} {p : Bool} (h : TapeOk t) (hl : lim ≤ 900) : ∃ σ cs t', m_L_counter [t, .int lim, .bl p] = .ok (.tup (cntT σ cs)) [t'] ∧ TapeOk t' ∧ CntV (· ∈ keyW) (CntR p) lim σ cs := by
  obtain ⟨k, t1, e1, h1, hk⟩ := draw_len (m := lim + 1) h (by omega) (by omega)
  obtain ⟨t2, σ, cs, c4, c5, e2, h2, v2⟩ := cnt_loop (lim := .fro (.int lim)) (p := p) (upto 0 k) (σ := []) (cs := []) (k := 0) (c4 := .no) (c5 := .no) h1 CntV.nil (by simp [upto]; omega) (.inl rfl) (.inl rfl)
  refine ⟨σ, cs, t2, ?_, h2, ⟨v2.nd, v2.keys, v2.len, v2.cnts, Nat.le_trans v2.most (by simp [upto]; omega)⟩⟩
  have e1' : m_L_draw [t, .int ((lim : Int) + 1)] = .ok (.int k) [t1] := e1
  have hr : rng1D [.int (k : Int)] = some (upto 0 k) := by simp [rng1D]; omega
  show runI 6 3 b_L_counter _ = _
  unfold runI b_L_counter l0_L_counter sFor
  simp at e2
  simp [gAdd, e1', hr, e2, gTupItems, pairs_cnt, lastIo]
end Lw

/-! Counters as data; joined, turned. -/
namespace Dt
open PySem
def cD (p : Str × Int) : D := .tup [.str p.1, .int p.2]
def cT (C : CL) : D := .tup (C.map cD)
def oD : Option Int → D
  | none => .non
  | some i => .int i
theorem cntT_zip : ∀ (σ : List Str) (cs : List Int), cntT σ cs = (σ.zip cs).map cD
  | [], _ => rfl
  | _ :: _, [] => rfl
  | k :: σ, c :: cs => by
    have ih := cntT_zip σ cs
    unfold cntT at ih ⊢
    rw [List.zipWith_cons_cons, List.zip_cons_cons, List.map_cons, ih]
    rfl
theorem CntV.cv {P : Str → Prop} {R : Int → Prop} {k : Nat} {σ : List Str} {cs : List Int} (h : CntV P R k σ cs) : CV P k (σ.zip cs) := by
  have e : keysC (σ.zip cs) = σ := List.map_fst_zip (Nat.le_of_eq h.len)
  exact ⟨by rw [e]; exact h.nd, by rw [e]; exact h.keys, by rw [List.length_zip]; have := h.most; omega⟩
theorem CntV.all {P : Str → Prop} {R : Int → Prop} {k : Nat} {σ : List Str} {cs : List Int} (h : CntV P R k σ cs) : ∀ p ∈ σ.zip cs, R p.2 := fun p hp => h.cnts _ (List.of_mem_zip (a := p.1) (b := p.2) hp).2
/-- the counter as a dict -/
def dC (C : CL) : D := .dct ((keysC C).map Sum.inr) (C.map fun p => .int p.2)
theorem dict_go_cv : ∀ (B A : CL), (keysC (A ++ B)).Nodup → dictGo (B.map cD) ((keysC A).map Sum.inr, A.map fun p => .int p.2) = some ((keysC (A ++ B)).map Sum.inr, (A ++ B).map fun p => .int p.2)
  | [], A, _ => by rw [List.append_nil]; rfl
  | p :: B, A, h => by
    have e : A ++ p :: B = (A ++ [p]) ++ B := by simp
    have ih := dict_go_cv B (A ++ [p]) (by rw [← e]; exact h)
    rw [← e] at ih
    have hp : p.1 ∉ keysC A := fun hm => by
      have h' : (keysC A ++ (p.1 :: keysC B)).Nodup := by unfold keysC at h ⊢; rw [List.map_append, List.map_cons] at h; exact h
      exact (List.nodup_append.mp h').2.2 p.1 hm p.1 (.head _) rfl
    have w := dPut_cnt (keysC A) (A.map (·.2)) p.1 p.2
    rw [List.map_map] at w
    have w2 : dPut ((keysC A).map Sum.inr) (A.map fun p => D.int p.2) (Sum.inr p.1) (.int p.2) = ((keysC (A ++ [p])).map Sum.inr, (A ++ [p]).map fun p => D.int p.2) := by
      refine Eq.trans w ?_
      unfold kindS putC
      rw [if_neg hp, if_neg hp]
      unfold keysC
      simp [Function.comp_def]
    rw [List.map_cons]
    show dictGo (.tup [.str p.1, .int p.2] :: B.map cD) _ = _
    unfold dictGo
    rw [keyOf_str, Option.bind_some]
    dsimp only
    rw [w2]
    exact ih
theorem gDict_cv {P : Str → Prop} {n : Nat} {C : CL} (h : CV P n C) : gDict [cT C] = some (dC C) := by
  show (dictGo (C.map cD) ([], [])).map _ = _
  have := dict_go_cv C [] h.nd
  rw [show (([] : List L2.Key), ([] : List D)) = ((keysC []).map Sum.inr, ([] : CL).map fun p => .int p.2) from rfl, this]
  rfl
theorem look_dct (C : CL) (x : Str) : dLook ((keysC C).map Sum.inr) (C.map fun p => .int p.2) (Sum.inr x) = (look C x).map D.int := by
  induction C with
  | nil => rfl
  | cons p C ih =>
    show dLook (Sum.inr p.1 :: (keysC C).map Sum.inr) (D.int p.2 :: C.map fun p => .int p.2) (Sum.inr x) = _
    unfold dLook
    rw [look_cons]
    by_cases e : p.1 = x
    · rw [if_pos (by rw [e]), if_pos e]; rfl
    · rw [if_neg (fun z => e (Sum.inr.inj z)), if_neg e, ih]
theorem look_non (C : CL) (x : Str) : (dLook ((keysC C).map Sum.inr) (C.map fun p => .int p.2) (Sum.inr x)).getD .non = oD (look C x) := by
  rw [look_dct]; cases look C x <;> rfl
theorem look_val (C : CL) (x : Str) : (dLook ((keysC C).map Sum.inr) (C.map fun p => .int p.2) (Sum.inr x)).getD (.int 0) = .int (val C x) := by
  rw [look_dct]; unfold val; cases look C x <;> rfl
theorem look_in (C : CL) (x : Str) : (dLook ((keysC C).map Sum.inr) (C.map fun p => .int p.2) (Sum.inr x)).isSome = decide (x ∈ keysC C) := by
  rw [look_dct, Option.isSome_map, Bool.eq_iff_iff, decide_eq_true_iff]
  cases e : look C x with
  | none => simp [look_none.mp e]
  | some c =>
    have : x ∈ keysC C := Decidable.byContradiction fun z => by rw [look_none.mpr z] at e; cases e
    simp [this]
theorem keys_str (C : CL) : ((keysC C).map (Sum.inr (α := Int))).map keyD = (keysC C).map D.str := by rw [List.map_map]; rfl

@[simp] theorem q_add_update : eqD (.str "add") (.str "update") = some false := by decide +kernel
@[simp] theorem q_add_subtract : eqD (.str "add") (.str "subtract") = some false := by decide +kernel
@[simp] theorem q_add_least : eqD (.str "add") (.str "least") = some false := by decide +kernel
@[simp] theorem q_add_add : eqD (.str "add") (.str "add") = some true := by decide +kernel
@[simp] theorem q_add_less : eqD (.str "add") (.str "less") = some false := by decide +kernel
@[simp] theorem q_add_most : eqD (.str "add") (.str "most") = some false := by decide +kernel
@[simp] theorem q_less_update : eqD (.str "less") (.str "update") = some false := by decide +kernel
@[simp] theorem q_less_subtract : eqD (.str "less") (.str "subtract") = some false := by decide +kernel
@[simp] theorem q_less_least : eqD (.str "less") (.str "least") = some false := by decide +kernel
@[simp] theorem q_less_add : eqD (.str "less") (.str "add") = some false := by decide +kernel
@[simp] theorem q_less_less : eqD (.str "less") (.str "less") = some true := by decide +kernel
@[simp] theorem q_less_most : eqD (.str "less") (.str "most") = some false := by decide +kernel
@[simp] theorem q_most_update : eqD (.str "most") (.str "update") = some false := by decide +kernel
@[simp] theorem q_most_subtract : eqD (.str "most") (.str "subtract") = some false := by decide +kernel
@[simp] theorem q_most_least : eqD (.str "most") (.str "least") = some false := by decide +kernel
@[simp] theorem q_most_add : eqD (.str "most") (.str "add") = some false := by decide +kernel
@[simp] theorem q_most_less : eqD (.str "most") (.str "less") = some false := by decide +kernel
@[simp] theorem q_most_most : eqD (.str "most") (.str "most") = some true := by decide +kernel
@[simp] theorem q_least_update : eqD (.str "least") (.str "update") = some false := by decide +kernel
@[simp] theorem q_least_subtract : eqD (.str "least") (.str "subtract") = some false := by decide +kernel
@[simp] theorem q_least_least : eqD (.str "least") (.str "least") = some true := by decide +kernel
@[simp] theorem q_least_add : eqD (.str "least") (.str "add") = some false := by decide +kernel
@[simp] theorem q_least_less : eqD (.str "least") (.str "less") = some false := by decide +kernel
@[simp] theorem q_least_most : eqD (.str "least") (.str "most") = some false := by decide +kernel
@[simp] theorem q_update_update : eqD (.str "update") (.str "update") = some true := by decide +kernel
@[simp] theorem q_update_subtract : eqD (.str "update") (.str "subtract") = some false := by decide +kernel
@[simp] theorem q_update_least : eqD (.str "update") (.str "least") = some false := by decide +kernel
@[simp] theorem q_update_add : eqD (.str "update") (.str "add") = some false := by decide +kernel
@[simp] theorem q_update_less : eqD (.str "update") (.str "less") = some false := by decide +kernel
@[simp] theorem q_update_most : eqD (.str "update") (.str "most") = some false := by decide +kernel
@[simp] theorem q_subtract_update : eqD (.str "subtract") (.str "update") = some false := by decide +kernel
@[simp] theorem q_subtract_subtract : eqD (.str "subtract") (.str "subtract") = some true := by decide +kernel
@[simp] theorem q_subtract_least : eqD (.str "subtract") (.str "least") = some false := by decide +kernel
@[simp] theorem q_subtract_add : eqD (.str "subtract") (.str "add") = some false := by decide +kernel
@[simp] theorem q_subtract_less : eqD (.str "subtract") (.str "less") = some false := by decide +kernel
@[simp] theorem q_subtract_most : eqD (.str "subtract") (.str "most") = some false := by decide +kernel
@[simp] theorem q_plus_plus : eqD (.str "plus") (.str "plus") = some true := by decide +kernel
@[simp] theorem q_minus_plus : eqD (.str "minus") (.str "plus") = some false := by decide +kernel
end Dt
namespace Lw
open Dt PySem
abbrev CK (n : Nat) (C : CL) : Prop := CV NmOk n C
theorem keyW_ok {x : Str} (h : x ∈ keyW) : NmOk x := by
  unfold keyW at h
  simp only [List.mem_cons, List.not_mem_nil, or_false] at h
  rcases h with rfl | rfl | rfl | rfl | rfl | rfl <;> (unfold NmOk; decide +kernel)
theorem cv_row {n : Nat} {C : CL} (h : CK n C) {p : Str × Int} (hp : p ∈ C) : NmOk p.1 := h.keys _ (List.mem_map.mpr ⟨p, hp, rfl⟩)
theorem cv_ok {n : Nat} {C : CL} (h : CK n C) (hn : n ≤ 1000) : Ok 1000 2 (cT C) := by
  refine ok_tup.mpr ⟨by rw [List.length_map]; have := h.len; omega, fun d hd => ?_⟩
  obtain ⟨p, hp, rfl⟩ := List.mem_map.mp hd
  refine ok_tup.mpr ⟨by simp, fun d hd => ?_⟩
  simp only [List.mem_cons, List.not_mem_nil, or_false] at hd
  rcases hd with rfl | rfl
  · exact (ok_str (m := 8) (n := 0).mpr (cv_row h hp).1).mono (by decide) (by decide)
  · exact ok_int
theorem cnt_yes {n : Nat} {C : CL} (h : CK n C) (hn : n ≤ 1000) : m_is_counter [cT C] = .ok (.bl true) [] := by
  rw [cnt_ok (cv_ok h hn) (by decide)]
  have e : cntS (cT C) = true := by
    unfold cT cntS
    dsimp only
    rw [Bool.and_eq_true]
    constructor
    · rw [List.all_map, List.all_eq_true]
      intro p hp
      show isN (.str p.1) && isI (.int p.2) = true
      rw [(cv_row h hp).2]
      rfl
    · rw [List.map_map, decide_eq_true_iff]
      have : C.map (keyS ∘ cD) = keysC C := rfl
      rw [this, kinds_nd h.nd, len_keys, List.length_map]
  rw [e]
end Lw

/-! Counters compared, counters drawn. -/
namespace Dt
open PySem
theorem eqv_rows : ∀ C : CL, PyData.eqvAll (D.toPs (C.map cD)) (D.toPs (C.map cD)) = true
  | [] => by simp [D.toPs, PyData.eqvAll]
  | p :: C => by
    have ih := eqv_rows C
    simp [D.toPs, PyData.eqvAll, cD, D.toP, PyData.eqv, ih]
theorem eqv_cT (C : CL) : (cT C).eqv (cT C) = true := by
  show PyData.eqv (.tuple (D.toPs (C.map cD))) (.tuple (D.toPs (C.map cD))) = true
  rw [PyData.eqv]
  exact eqv_rows C
theorem eqv_nil (C : CL) : (cT C).eqv (.tup []) = C.isEmpty := by
  show PyData.eqv (.tuple (D.toPs (C.map cD))) (.tuple []) = _
  cases C <;> simp [PyData.eqv, D.toPs, PyData.eqvAll]
end Dt
namespace Lw
open Dt PySem
theorem ne_same {n : Nat} {C : CL} (h : CK n C) (hn : n ≤ 500 := by decide) : gNe [cT C, cT C] = some (.bl false) := by
  have o := cv_ok h (Nat.le_trans hn (by decide))
  show (eqD _ _).map _ = _
  rw [eqD_ok o o (by decide) (by decide), eqv_cT]
  rfl
theorem eq_nil {n : Nat} {C : CL} (h : CK n C) (hn : n ≤ 500 := by decide) : gEq [cT C, .tup []] = some (.bl C.isEmpty) := by
  have o := cv_ok h (Nat.le_trans hn (by decide))
  show (eqD _ _).map _ = _
  rw [eqD_ok o (ok_tup (m := 1) (n := 1) (ds := []).mpr ⟨by simp, by simp⟩) (by decide) (by decide), eqv_nil]
  rfl
theorem ctr_ok {t : D} {p : Bool} (h : TapeOk t) : ∃ C t', m_L_counter [t, .int 6, .bl p] = .ok (cT C) [t'] ∧ TapeOk t' ∧ CK 6 C ∧ (p = true → Prp C) := by
  obtain ⟨σ, cs, t', e, h', v⟩ := counter_ok (lim := 6) (p := p) h (by decide)
  refine ⟨σ.zip cs, t', ?_, h', v.cv.imp fun _ => keyW_ok, fun hp q hq => (v.all q hq).2.2 hp⟩
  rw [cntT_zip] at e
  exact e
end Lw

/-! What the program's operations compute on counters. -/
namespace Lw
open Dt PySem
theorem looked_2 {n m : Nat} {A B : CL} (a : CK n A) (b : CK m B) (hn : n ≤ 500) (hm : m ≤ 500) : m_looked [.arg [cT A, cT B]] = .ok .non [] := by
  show runP 2 1 b_looked _ = _
  unfold runP b_looked l0_looked sFor
  simp [itemsD, forGo, t0_looked, cnt_yes a (Nat.le_trans hn (by decide)), cnt_yes b (Nat.le_trans hm (by decide)), D.truth]
theorem looked_1 {n : Nat} {A : CL} (a : CK n A) (hn : n ≤ 500) : m_looked [.arg [cT A]] = .ok .non [] := by
  show runP 2 1 b_looked _ = _
  unfold runP b_looked l0_looked sFor
  simp [itemsD, forGo, t0_looked, cnt_yes a (Nat.le_trans hn (by decide)), D.truth]
end Lw

/-! What equal, at_most and total compute on counters. -/
namespace Lw
open Dt PySem
@[simp] theorem ev_clGo0 (vs : List Nat) (g : SG) (bs : Acc → Dt.Env → R Acc) (acc : Acc) (ρ : Dt.Env) : clGo vs g bs [] acc ρ = .ok acc ρ := rfl
theorem keys_in {c0 c1 : Cell} : ∀ (C : CL) (σ : List Str) (vs : List D), σ.length + C.length < 5000 →
    ∃ vs', clGo [2, 3] (gTup' 2 (gC (gSet 2) (gC (gSet 3) gN))) (putS (sVar 2) (sCst (.bl true))) (C.map cD) (σ.map Sum.inr, vs) [c0, c1, .no, .no] = .ok (((keysC C).foldl kindS σ).map Sum.inr, vs') [c0, c1, .no, .no]
  | [], σ, vs, _ => ⟨vs, rfl⟩
  | p :: C, σ, vs, hl => by
    rw [List.length_cons] at hl
    have hk : (kindS σ p.1).length ≤ σ.length + 1 := by rw [len_kindS]; split <;> omega
    obtain ⟨vs', ih⟩ := keys_in (c0 := c0) (c1 := c1) C (kindS σ p.1) (dPut (σ.map Sum.inr) vs (Sum.inr p.1) (.bl true)).2 (by omega)
    refine ⟨vs', ?_⟩
    have g : gTup' 2 (gC (gSet 2) (gC (gSet 3) gN)) (cD p) [c0, c1, .no, .no] = .ok () [c0, c1, .fro (.str p.1), .fro (.int p.2)] := by simp [cD]
    have w : dPut (σ.map Sum.inr) vs (Sum.inr p.1) (.bl true) = ((kindS σ p.1).map Sum.inr, (dPut (σ.map Sum.inr) vs (Sum.inr p.1) (.bl true)).2) := by
      rw [← dPut_kind σ vs p.1 (.bl true)]
    have hs : (σ.map (Sum.inr (α := Int))).length < sizeLine := small_line (by rw [List.length_map]; omega)
    have b : putS (sVar 2) (sCst (.bl true)) (σ.map Sum.inr, vs) [c0, c1, .fro (.str p.1), .fro (.int p.2)] = .ok ((kindS σ p.1).map Sum.inr, (dPut (σ.map Sum.inr) vs (Sum.inr p.1) (.bl true)).2) [c0, c1, .fro (.str p.1), .fro (.int p.2)] := by
      rw [← w]
      unfold putS
      rw [List.length_map] at hs
      simp [keyOf_str, hs]
    rw [List.map_cons]
    unfold clGo
    rw [g, R.bind_ok, b, R.bind_ok, if_pos (by simp [plainAt])]
    exact ih
theorem keys_ok {n m : Nat} {A B : CL} (a : CK n A) (b : CK m B) (hn : n ≤ 500) (hm : m ≤ 500) : m_keys_of [.arg [cT A, cT B]] = .ok (.lst ((allK A B).map D.str)) [] := by
  have la := a.len
  have lb := b.len
  have e0 : ∀ σ : List Str, ∀ C : CL, (keysC C).Nodup → (keysC C).foldl kindS σ = σ ++ (keysC C).filter fun k => !decide (k ∈ σ) := fun σ C nd => foldl_kind _ _ nd
  have ea : (keysC A).foldl kindS [] = keysC A := by rw [e0 _ _ a.nd]; simp
  have eb : (keysC B).foldl kindS (keysC A) = allK A B := e0 _ _ b.nd
  obtain ⟨v1, i1⟩ := keys_in (c0 := .fro (.arg [cT A, cT B])) (c1 := .fro (cT A)) A [] [] (by simp; omega)
  obtain ⟨v2, i2⟩ := keys_in (c0 := .fro (.arg [cT A, cT B])) (c1 := .fro (cT B)) B (keysC A) v1 (by rw [len_keys]; omega)
  rw [ea] at i1
  rw [eb] at i2
  have i1 : clGo [2, 3] (gTup' 2 (gC (gSet 2) (gC (gSet 3) gN))) (putS (sVar 2) (sCst (.bl true))) (A.map cD) ([], []) [.fro (.arg [cT A, cT B]), .fro (cT A), .no, .no] = .ok ((keysC A).map Sum.inr, v1) [.fro (.arg [cT A, cT B]), .fro (cT A), .no, .no] := i1
  have ia : itemsD (cT A) = some (A.map cD) := rfl
  have ib : itemsD (cT B) = some (B.map cD) := rfl
  have c : c0_keys_of [.fro (.arg [cT A, cT B]), .no, .no, .no] = .ok (.dct ((allK A B).map Sum.inr) v2) [.fro (.arg [cT A, cT B]), .no, .no, .no] := by
    unfold c0_keys_of sDComp2
    have ig : itemsD (.arg [cT A, cT B]) = some [cT A, cT B] := rfl
    simp [ig, ia, ib, plainAt, wipeE, clGo, innS, backE, i1, i2]
  show runP 4 1 b_keys_of _ = _
  unfold runP b_keys_of
  simp [c, gList]
  exact fun _ _ => rfl
theorem all_bl {ks : List Str} {g : Str → Bool} : gAll [.lst (ks.map fun x => .bl (g x))] = some (.bl (ks.all g)) := by
  have e : ks.map (fun x => D.bl (g x)) = (ks.map D.str).map fun d => .bl (match d with | .str x => g x | _ => false) := by rw [List.map_map]; rfl
  have e2 : (ks.map D.str).map (fun d => match d with | .str x => g x | _ => false) = ks.map g := by rw [List.map_map]; rfl
  show (blsOf _).map _ = _
  rw [e, bls_map, e2]
  simp [List.all_map]
theorem comp_eq {n m : Nat} {A B : CL} (a : CK n A) (b : CK m B) (hn : n ≤ 500) (hm : m ≤ 500) : c0_all_equal [.fro (cT A), .fro (cT B), .fro (dC A), .fro (dC B), .no] = .ok (.lst ((allK A B).map fun x => .bl (decide (val A x = val B x)))) [.fro (cT A), .fro (cT B), .fro (dC A), .fro (dC B), .no] := by
  have e := comp_map (vs := [4]) (g := gSet 4) (t := tT1) (s := sOps gEq (b2 (sVal (sGet2 (sLoc 2) (sVar 4) (sCst (.int 0)))) (sVal (sGet2 (sLoc 3) (sVar 4) (sCst (.int 0))))))
    (f := fun d => match d with | .str x => .bl (decide (val A x = val B x)) | d => d) (p := fun _ => true) (ρ := [.fro (cT A), .fro (cT B), .fro (dC A), .fro (dC B), .no]) (ds := (allK A B).map D.str)
    (fun d hd => by
      obtain ⟨x, _, rfl⟩ := List.mem_map.mp hd
      refine ⟨[.fro (cT A), .fro (cT B), .fro (dC A), .fro (dC B), .fro (.str x)], [.fro (cT A), .fro (cT B), .fro (dC A), .fro (dC B), .fro (.str x)], by simp, rfl, by simp [plainAt], by simp [wipeE], fun _ => ⟨[.fro (cT A), .fro (cT B), .fro (dC A), .fro (dC B), .fro (.str x)], ?_, by simp [plainAt], by simp [wipeE]⟩⟩
      unfold dC
      simp [look_val, gEq]
      exact Bool.eq_iff_iff.mpr (by simp))
  have la := a.len
  have lb := b.len
  have h1 : (restK A B).length ≤ (keysC B).length := List.length_filter_le ..
  rw [len_keys] at h1
  have hl : (allK A B).length ≤ sizeLine := line_pos (by unfold allK; rw [List.length_append, len_keys]; omega)
  rw [List.filter_eq_self.mpr (fun _ _ => rfl), List.map_map] at e
  unfold c0_all_equal sComp
  simp [keys_ok a b hn hm, line2, itemsD, plainAt, hl, wipeE, e, backE, Function.comp_def]
theorem comp_le {n m : Nat} {A B : CL} (a : CK n A) (b : CK m B) (hn : n ≤ 500) (hm : m ≤ 500) : c0_all_at_most [.fro (cT A), .fro (cT B), .fro (dC A), .fro (dC B), .no] = .ok (.lst ((allK A B).map fun x => .bl (decide (val A x ≤ val B x)))) [.fro (cT A), .fro (cT B), .fro (dC A), .fro (dC B), .no] := by
  have e := comp_map (vs := [4]) (g := gSet 4) (t := tT1) (s := sOps gLe (b2 (sVal (sGet2 (sLoc 2) (sVar 4) (sCst (.int 0)))) (sVal (sGet2 (sLoc 3) (sVar 4) (sCst (.int 0))))))
    (f := fun d => match d with | .str x => .bl (decide (val A x ≤ val B x)) | d => d) (p := fun _ => true) (ρ := [.fro (cT A), .fro (cT B), .fro (dC A), .fro (dC B), .no]) (ds := (allK A B).map D.str)
    (fun d hd => by
      obtain ⟨x, _, rfl⟩ := List.mem_map.mp hd
      refine ⟨[.fro (cT A), .fro (cT B), .fro (dC A), .fro (dC B), .fro (.str x)], [.fro (cT A), .fro (cT B), .fro (dC A), .fro (dC B), .fro (.str x)], by simp, rfl, by simp [plainAt], by simp [wipeE], fun _ => ⟨[.fro (cT A), .fro (cT B), .fro (dC A), .fro (dC B), .fro (.str x)], ?_, by simp [plainAt], by simp [wipeE]⟩⟩
      unfold dC
      simp [look_val, gLe, lexI])
  have la := a.len
  have lb := b.len
  have h1 : (restK A B).length ≤ (keysC B).length := List.length_filter_le ..
  rw [len_keys] at h1
  have hl : (allK A B).length ≤ sizeLine := line_pos (by unfold allK; rw [List.length_append, len_keys]; omega)
  rw [List.filter_eq_self.mpr (fun _ _ => rfl), List.map_map] at e
  unfold c0_all_at_most sComp
  simp [keys_ok a b hn hm, line2, itemsD, plainAt, hl, wipeE, e, backE, Function.comp_def]
def eqC (A B : CL) : Bool := (allK A B).all fun x => decide (val A x = val B x)
def leC (A B : CL) : Bool := (allK A B).all fun x => decide (val A x ≤ val B x)
theorem op_equal {n m : Nat} {A B : CL} (a : CK n A) (b : CK m B) (hn : n ≤ 500 := by decide) (hm : m ≤ 500 := by decide) : m_equal [cT A, cT B] = .ok (.bl (eqC A B)) [] := by
  have e : m_all_equal [cT A, cT B] = .ok (.bl (eqC A B)) [] := by
    show runP 5 2 b_all_equal _ = _
    unfold runP b_all_equal
    simp [gDict_cv a, gDict_cv b, line2, comp_eq a b hn hm, all_bl, eqC]
  show runP 2 2 b_equal _ = _
  unfold runP b_equal
  simp [looked_2 a b hn hm, e, line2]
theorem op_at_most {n m : Nat} {A B : CL} (a : CK n A) (b : CK m B) (hn : n ≤ 500 := by decide) (hm : m ≤ 500 := by decide) : m_at_most [cT A, cT B] = .ok (.bl (leC A B)) [] := by
  have e : m_all_at_most [cT A, cT B] = .ok (.bl (leC A B)) [] := by
    show runP 5 2 b_all_at_most _ = _
    unfold runP b_all_at_most
    simp [gDict_cv a, gDict_cv b, line2, comp_le a b hn hm, all_bl, leC]
  show runP 2 2 b_at_most _ = _
  unfold runP b_at_most
  simp [looked_2 a b hn hm, e, line2]
theorem eqC_yes {A B : CL} (h : ∀ x, val A x = val B x) : eqC A B = true := List.all_eq_true.mpr fun x _ => decide_eq_true (h x)
theorem leC_yes {A B : CL} (h : ∀ x, val A x ≤ val B x) : leC A B = true := List.all_eq_true.mpr fun x _ => decide_eq_true (h x)
theorem ints_of : ∀ C : CL, intsOf (C.map fun p => .int p.2) = some (C.map (·.2))
  | [] => rfl
  | p :: C => by rw [List.map_cons, intsOf, ints_of C]; rfl
theorem op_total {n : Nat} {A : CL} (a : CK n A) (hn : n ≤ 500 := by decide) : m_total [cT A] = .ok (.int (totC A)) [] := by
  have la := a.len
  have e := comp_map (vs := [1, 2]) (g := gTup' 2 (gC (gSet 1) (gC (gSet 2) gN))) (t := tT1) (s := sVar 2) (f := fun d => match d with | .tup [_, c] => c | d => d) (p := fun _ => true) (ρ := [.fro (cT A), .no, .no]) (ds := A.map cD)
    (fun d hd => by
      obtain ⟨p, _, rfl⟩ := List.mem_map.mp hd
      exact ⟨[.fro (cT A), .fro (.str p.1), .fro (.int p.2)], [.fro (cT A), .fro (.str p.1), .fro (.int p.2)], by simp [cD], rfl, by simp [plainAt], by simp [wipeE], fun _ => ⟨[.fro (cT A), .fro (.str p.1), .fro (.int p.2)], by simp [cD], by simp [plainAt], by simp [wipeE]⟩⟩)
  have hl : A.length ≤ sizeLine := line_pos (by omega)
  rw [List.filter_eq_self.mpr (fun _ _ => rfl), List.map_map] at e
  have c : c0_total [.fro (cT A), .no, .no] = .ok (.lst (A.map fun p => .int p.2)) [.fro (cT A), .no, .no] := by
    have hi : itemsD (cT A) = some (A.map cD) := rfl
    unfold c0_total sComp
    simp [hi, plainAt, hl, wipeE, e, backE, Function.comp_def]
    exact fun _ _ _ => rfl
  show runP 3 1 b_total _ = _
  unfold runP b_total
  simp [looked_1 a hn, line1, c, gSum, ints_of, totC]
end Lw

/-! _law_like of a thing and itself. -/
namespace Lw
open Dt PySem
theorem upto_mem {d : D} {n : Nat} (h : d ∈ upto 0 n) : ∃ k : Nat, k < n ∧ d = .int k := by
  unfold upto at h
  obtain ⟨k, hk, rfl⟩ := List.mem_map.mp h
  exact ⟨k, List.mem_range.mp hk, by simp⟩
theorem like_comp {f : Nat} {d : D} {ds : List D} {z : Cell} (hd : d = .tup ds ∨ d = .lst ds) (hl : ds.length ≤ 1000) (ih : ∀ x ∈ ds, m_L_like f [x, x] = .ok (.bl true) []) : c0_L_like (m_L_like f) [.fro d, .fro d, .no] = .ok (.lst []) [.fro d, .fro d, .no] := by
  have e := comp_map (vs := [2]) (g := gSet 2) (t := tNotS (sTru (sVal (sCallP 2 (m_L_like f) (sCons (sOps gIdx (b2 (sLoc 0) (sLoc 2))) (sCons (sOps gIdx (b2 (sLoc 1) (sLoc 2))) sNil)))))) (s := sVar 2) (f := fun d => d) (p := fun _ => false) (ρ := [.fro d, .fro d, .no]) (ds := upto 0 ds.length)
    (fun i hi => by
      obtain ⟨k, hk, rfl⟩ := upto_mem hi
      refine ⟨[.fro d, .fro d, .fro (.int k)], [.fro d, .fro d, .fro (.int k)], by simp, ?_, by simp [plainAt], by simp [wipeE], fun z => by cases z⟩
      have g : gIdx [d, .int (k : Int)] = some ds[k] := by rcases hd with rfl | rfl <;> simp [gIdx, idxD, atI_at hk]
      simp [g, ih ds[k] (List.getElem_mem hk), D.truth])
  have hf : (upto 0 ds.length).filter (fun _ => false) = [] := by simp
  rw [hf] at e
  have hu : (upto 0 ds.length).length ≤ sizeLine := line_pos (by simp [upto]; omega)
  have hr : rng1D [.int (ds.length : Int)] = some (upto 0 ds.length) := by simp [rng1D]; omega
  have hg : gLen [d] = some (.int ds.length) := by rcases hd with rfl | rfl <;> rfl
  unfold c0_L_like sComp
  simp [hg, hr, plainAt, hu, wipeE, e, backE]
theorem ne_int (i : Int) : gNe [.int i, .int i] = some (.bl false) := by simp [gNe]
theorem len_tup (ds : List D) : gLen [.tup ds] = some (.int ds.length) := rfl
theorem len_lst (ds : List D) : gLen [.lst ds] = some (.int ds.length) := rfl
theorem gEq_two (a b : D) : gEq [a, b] = (eqD a b).map D.bl := rfl
theorem ret_nil {E : SE} {d : D} {ρ ρ' : Dt.Env} (c : E ρ = .ok d ρ') (g : gEq [d, .lst []] = some (.bl true)) : (sRet (sOps gEq (b2 (sVal E) (sVal (sLst sNil))))) ρ = .ok (.rt (.bl true)) ρ' := by
  simp [c, g]
theorem like_tup {self : List D → FR} {ds : List D} (c : c0_L_like self [.fro (.tup ds), .fro (.tup ds), .no] = .ok (.lst []) [.fro (.tup ds), .fro (.tup ds), .no]) (e0 : eqD (.lst []) (.lst []) = some true) : runP 3 2 (b_L_like self) [.tup ds, .tup ds] = .ok (.bl true) [] := by
  have h : u0_L_like self [.fro (.tup ds), .fro (.tup ds), .no] = .ok (.rt (.bl true)) [.fro (.tup ds), .fro (.tup ds), .no] := by
    unfold u0_L_like
    refine (seq_nx (ρ' := [.fro (.tup ds), .fro (.tup ds), .no]) (by simp [isT, isTn, tyN, gNe])).trans ?_
    refine (seq_nx (ρ' := [.fro (.tup ds), .fro (.tup ds), .no]) (by simp [ne_int, len_tup])).trans ?_
    exact ret_nil c (by rw [gEq_two, e0]; rfl)
  unfold runP b_L_like
  simp [isT, isTn, tyN, h, D.truth]
theorem like_lst {self : List D → FR} {ds : List D} (c : c0_L_like self [.fro (.lst ds), .fro (.lst ds), .no] = .ok (.lst []) [.fro (.lst ds), .fro (.lst ds), .no]) (e0 : eqD (.lst []) (.lst []) = some true) : runP 3 2 (b_L_like self) [.lst ds, .lst ds] = .ok (.bl true) [] := by
  have h : u0_L_like self [.fro (.lst ds), .fro (.lst ds), .no] = .ok (.rt (.bl true)) [.fro (.lst ds), .fro (.lst ds), .no] := by
    unfold u0_L_like
    refine (seq_nx (ρ' := [.fro (.lst ds), .fro (.lst ds), .no]) (by simp [isT, isTn, tyN, gNe])).trans ?_
    refine (seq_nx (ρ' := [.fro (.lst ds), .fro (.lst ds), .no]) (by simp [ne_int, len_lst])).trans ?_
    exact ret_nil c (by rw [gEq_two, e0]; rfl)
  unfold runP b_L_like
  simp [isT, isTn, tyN, h, D.truth]
theorem like_leaf {self : List D → FR} {d : D} (h : d = .non ∨ (∃ b, d = .bl b) ∨ (∃ i, d = .int i) ∨ ∃ s, d = .str s) (es : eqD d d = some true) : runP 3 2 (b_L_like self) [d, d] = .ok (.bl true) [] := by
  unfold runP b_L_like
  rcases h with rfl | ⟨b, rfl⟩ | ⟨i, rfl⟩ | ⟨s, rfl⟩ <;> simp [isT, isTn, tyN, D.truth, gEq, es]
theorem like_ok {m : Nat} (hm : m ≤ 1000) (f : Nat) : ∀ (n : Nat) {d : D}, n < f → n ≤ 40 → Ok m n d → m_L_like f [d, d] = .ok (.bl true) [] := by
  induction f with
  | zero => intro n d h; exact absurd h (Nat.not_lt_zero _)
  | succ f ih =>
    intro n d hf hn h
    have es := eqD_self h (Nat.le_trans hn (by decide))
    have e0 : eqD (.lst []) (.lst []) = some true := eqD_self (m := 1) (n := 1) (ok_lst.mpr ⟨by simp, by simp⟩) (by decide)
    have seq : ∀ (ds : List D), (d = .tup ds ∨ d = .lst ds) → ∃ k, n = k + 1 ∧ ds.length ≤ m ∧ ∀ x ∈ ds, Ok m k x := fun ds hd => by
      cases n with
      | zero => rcases hd with rfl | rfl <;> exact h.elim
      | succ k => rcases hd with rfl | rfl <;> exact ⟨k, rfl, h.1, h.2⟩
    cases d with
    | tup ds =>
      obtain ⟨k, rfl, hl, ho⟩ := seq ds (.inl rfl)
      exact like_tup (like_comp (z := .no) (.inl rfl) (by omega) fun x hx => ih k (by omega) (by omega) (ho x hx)) e0
    | lst ds =>
      obtain ⟨k, rfl, hl, ho⟩ := seq ds (.inr rfl)
      exact like_lst (like_comp (z := .no) (.inr rfl) (by omega) fun x hx => ih k (by omega) (by omega) (ho x hx)) e0
    | non => exact like_leaf (.inl rfl) es
    | bl b => exact like_leaf (.inr (.inl ⟨b, rfl⟩)) es
    | int b => exact like_leaf (.inr (.inr (.inl ⟨b, rfl⟩))) es
    | str b => exact like_leaf (.inr (.inr (.inr ⟨b, rfl⟩))) es
    | _ => cases n <;> exact h.elim
end Lw

/-! most_common and the law's ranking. -/
namespace Dt
open PySem
/-- the greater count first -/
def ltC (p q : Str × Int) : Bool := decide (q.2 < p.2)
def rankC (A : CL) : CL := isort ltC A
theorem swo_ltC : SrtO.Swo ltC := by
  refine ⟨fun x y h => ?_, fun x y z h1 h2 => ?_⟩
  · have a := of_decide_eq_true (p := y.2 < x.2) h
    exact decide_eq_false (p := x.2 < y.2) (by omega)
  · have a := of_decide_eq_false (p := x.2 < y.2) h1
    have b := of_decide_eq_false (p := y.2 < z.2) h2
    exact decide_eq_false (p := x.2 < z.2) (by omega)
/-- behind all that are as great -/
def insR (F : CL) (p : Str × Int) : CL := F.take (F.filter fun q => decide (p.2 ≤ q.2)).length ++ [p] ++ F.drop (F.filter fun q => decide (p.2 ≤ q.2)).length
theorem front {p : Str × Int} : ∀ {F : CL}, SrtO.Srtd ltC F → ∃ a b, F = a ++ b ∧ (F.filter fun q => decide (p.2 ≤ q.2)) = a ∧ ((∀ q ∈ a, p.2 ≤ q.2) ∧ (∀ q ∈ b, q.2 < p.2))
  | [], _ => ⟨[], [], rfl, rfl, (fun _ h => absurd h List.not_mem_nil), (fun _ h => absurd h List.not_mem_nil)⟩
  | x :: F, h => by
    obtain ⟨h1, h2⟩ := List.pairwise_cons.mp h
    by_cases hx : p.2 ≤ x.2
    · obtain ⟨a, b, e1, e2, e3, e4⟩ := front (p := p) h2
      refine ⟨x :: a, b, by rw [e1]; rfl, by rw [List.filter_cons_of_pos (by simpa using hx), e2], fun q hq => (List.mem_cons.mp hq).elim (fun z => z ▸ hx) (e3 q), e4⟩
    · refine ⟨[], x :: F, rfl, ?_, (fun _ h => absurd h List.not_mem_nil), (fun q hq => ?_)⟩
      · refine List.filter_eq_nil_iff.mpr fun q hq => ?_
        rcases List.mem_cons.mp hq with rfl | hq
        · simpa using hx
        · have := of_decide_eq_false (p := x.2 < q.2) (h1 q hq)
          simp
          omega
      · rcases List.mem_cons.mp hq with rfl | hq
        · omega
        · have := of_decide_eq_false (p := x.2 < q.2) (h1 q hq)
          omega
theorem insR_ok {F : CL} {p : Str × Int} (h : SrtO.Srtd ltC F) : SrtO.Srtd ltC (insR F p) ∧ SrtO.Stb ltC (insR F p) (F ++ [p]) := by
  obtain ⟨a, b, e1, e2, e3, e4⟩ := front (p := p) h
  have ei : insR F p = a ++ ([p] ++ b) := by
    unfold insR
    rw [e2, e1, List.take_left, List.drop_left, List.append_assoc]
  rw [ei]
  rw [e1] at h ⊢
  obtain ⟨s1, s2, s3⟩ := SrtO.srtd_app.mp h
  refine ⟨SrtO.srtd_app.mpr ⟨s1, SrtO.srtd_app.mpr ⟨SrtO.srtd_one p, s2, fun x hx y hy => ?_⟩, fun x hx y hy => ?_⟩, ?_⟩
  · rw [List.mem_singleton.mp hx]
    exact decide_eq_false (p := p.2 < y.2) (by have := e4 y hy; omega)
  · rcases List.mem_append.mp hy with hy | hy
    · rw [List.mem_singleton.mp hy]
      exact decide_eq_false (p := x.2 < p.2) (by have := e3 x hx; omega)
    · exact s3 x hx y hy
  · rw [List.append_assoc]
    exact SrtO.Stb.app (SrtO.Stb.refl _) (SrtO.Stb.swap swo_ltC (A := [p]) (B := b) fun x hx y hy => by
      rw [List.mem_singleton.mp hx]
      exact decide_eq_true (p := y.2 < p.2) (e4 y hy))
theorem fold_ok : ∀ (A F G : CL), SrtO.Srtd ltC F → SrtO.Stb ltC F G → SrtO.Srtd ltC (A.foldl insR F) ∧ SrtO.Stb ltC (A.foldl insR F) (G ++ A)
  | [], F, G, h1, h2 => by rw [List.append_nil]; exact ⟨h1, h2⟩
  | p :: A, F, G, h1, h2 => by
    obtain ⟨s1, s2⟩ := insR_ok (p := p) h1
    have := fold_ok A (insR F p) (G ++ [p]) s1 (s2.trans (SrtO.Stb.app h2 (SrtO.Stb.refl _)))
    rw [List.append_assoc] at this
    exact this
theorem fold_rank (A : CL) : A.foldl insR [] = rankC A := by
  obtain ⟨s1, s2⟩ := fold_ok A [] [] List.Pairwise.nil (SrtO.Stb.refl _)
  exact isort_uniq swo_ltC s1 s2
theorem rank_len (A : CL) : (rankC A).length = A.length := (isort_ok swo_ltC A).2.perm.length_eq
end Dt
namespace Lw
open Dt PySem
theorem keys_neg : ∀ A : CL, keysI k0_ranked (A.map cD) = some (A.map fun p => -p.2)
  | [] => rfl
  | p :: A => by
    have e : keyI k0_ranked (cD p) = some (-p.2) := by
      unfold keyI k0_ranked
      have i1 : gIdx [cD p, .int 1] = some (.int p.2) := rfl
      simp [i1, gSub, gI, ofO]
    rw [List.map_cons, keysI, e, keys_neg A]
    rfl
theorem ranked_ok {A : CL} (la : A.length ≤ 1000) : m_ranked [cT A] = .ok (.lst ((rankC A).map cD)) [] := by
  have gl : gList [cT A] = some (.lst (A.map cD)) := rfl
  have es : sortK (A.map fun p => -p.2) (A.map cD) = (rankC A).map cD := by
    unfold sortK rankC
    rw [List.zip_map', isort_map (lt := ltC) (f := fun p : Str × Int => (-p.2, cD p)) (lt' := ltK) (fun x y => by
      unfold ltK ltC
      exact decide_eq_decide.mpr (by constructor <;> intro h <;> omega)), List.map_map]
    rfl
  have hz : (A.map cD).length ≤ 1000 := by rw [List.length_map]; exact la
  have ks := keys_neg A
  generalize A.map cD = Z at *
  show runP 1 1 b_ranked _ = _
  unfold runP b_ranked sSortK
  simp [gl, hz, ks, es]
theorem take_slice (xs : List D) (m : Nat) : sliceD (.lst xs) none (some (m : Int)) = some (.lst (xs.take m)) := by
  have h2 : HT.sIx xs.length xs.length (some (m : Int)) = min m xs.length := HT.sIx_nat _ _ m
  unfold sliceD cutD
  simp only [HT.sIx_none, List.drop_zero, Nat.sub_zero]
  rw [h2]
  congr 2
  rw [List.take_eq_take_iff]
  omega
theorem most_ok {n : Nat} {A : CL} (a : CK n A) (hn : n ≤ 500) (m : Nat) : m_most_common [cT A, .int m] = .ok (.lst (((rankC A).take m).map cD)) [] := by
  have lk := looked_1 a hn
  have rk := ranked_ok (A := A) (by have := a.len; omega)
  have sl := take_slice ((rankC A).map cD) m
  have nn : ¬ (m : Int) < 0 := by omega
  have ii : m_is_integer [.int m] = .ok (.bl true) [] := by
    show runP 1 1 b_is_integer _ = _
    unfold runP b_is_integer
    simp [isT, isTn, tyN, D.truth]
  rw [List.map_take]
  generalize (rankC A).map cD = Z at *
  show runP 2 2 b_most_common _ = _
  unfold runP b_most_common
  simp [lk, line1, ii, D.truth, gLt, lexI, nn, rk, sl]
end Lw

/-! The law's own equal and at_most. -/
namespace Lw
open Dt PySem
theorem filt_eq (A B : CL) : ((keysC A ++ keysC B).filter fun x => !decide (val A x = val B x)).isEmpty = eqC A B := by
  rw [Bool.eq_iff_iff, List.isEmpty_iff, List.filter_eq_nil_iff]
  unfold eqC
  rw [List.all_eq_true]
  constructor
  · intro h x hx
    simpa using h x (List.mem_append.mpr (mem_allK.mp hx))
  · intro h x hx
    simpa using h x (mem_allK.mpr (List.mem_append.mp hx))
theorem filt_le (A B : CL) : ((keysC A ++ keysC B).filter fun x => decide (val B x < val A x)).isEmpty = leC A B := by
  rw [Bool.eq_iff_iff, List.isEmpty_iff, List.filter_eq_nil_iff]
  unfold leC
  rw [List.all_eq_true]
  constructor
  · intro h x hx
    simpa using h x (List.mem_append.mpr (mem_allK.mp hx))
  · intro h x hx
    simpa using h x (mem_allK.mpr (List.mem_append.mp hx))
theorem eq_nilL {xs : List Str} (h : ∀ x ∈ xs, NmOk x) (hl : xs.length ≤ 1000) : gEq [.lst (xs.map D.str), .lst []] = some (.bl xs.isEmpty) := by
  have o : Ok 1000 1 (.lst (xs.map D.str)) := ok_lst.mpr ⟨by rw [List.length_map]; exact hl, fun d hd => by
    obtain ⟨x, hx, rfl⟩ := List.mem_map.mp hd
    exact (ok_str (m := 8) (n := 0).mpr (h x hx).1).mono (by decide) (by decide)⟩
  show (eqD _ _).map _ = _
  rw [eqD_ok o (ok_lst (m := 1) (n := 1) (ds := []).mpr ⟨by simp, by simp⟩) (by decide) (by decide)]
  show some (D.bl (PyData.eqv (.list (D.toPs (xs.map D.str))) (.list []))) = _
  cases xs <;> simp [PyData.eqv, D.toPs, PyData.eqvAll]
theorem list_dct (A : CL) : gList [dC A] = some (.lst ((keysC A).map D.str)) := by
  show some (D.lst (((keysC A).map (Sum.inr (α := Int))).map keyD)) = _
  rw [keys_str]
theorem both_nm {n m : Nat} {A B : CL} (a : CK n A) (b : CK m B) {p : Str → Bool} : ∀ x ∈ (keysC A ++ keysC B).filter p, NmOk x := fun x hx =>
  (List.mem_append.mp (List.mem_filter.mp hx).1).elim (a.keys x) (b.keys x)
theorem both_len {n m : Nat} {A B : CL} (a : CK n A) (b : CK m B) (hn : n ≤ 500) (hm : m ≤ 500) : (keysC A ++ keysC B).length ≤ 1000 := by
  have la := a.len
  have lb := b.len
  rw [List.length_append, len_keys, len_keys]
  omega
theorem leq_ok {n m : Nat} {A B : CL} (a : CK n A) (b : CK m B) (hn : n ≤ 500) (hm : m ≤ 500) : m_L_equal [cT A, cT B] = .ok (.bl (eqC A B)) [] := by
  have bl := both_len a b hn hm
  have fl : ((keysC A ++ keysC B).filter fun x => !decide (val A x = val B x)).length ≤ 1000 := Nat.le_trans (List.length_filter_le ..) bl
  have e := comp1f (enc := D.str) (i := 5) (t := sTst (sOps gNe (b2 (sVal (sGet2 (sLoc 3) (sVar 5) (sCst (.int 0)))) (sVal (sGet2 (sLoc 4) (sVar 5) (sCst (.int 0)))))))
    (s := sVar 5) (ρ := [.fro (cT A), .fro (cT B), .fro (.lst ((keysC A ++ keysC B).map D.str)), .fro (dC A), .fro (dC B), .no]) (xs := keysC A ++ keysC B) D.str (fun x => !decide (val A x = val B x)) rfl
    (fun x _ => ⟨by unfold dC; simp [look_val, gNe, D.truth]; first | done | (exact Bool.eq_iff_iff.mpr (by simp)), fun _ => by simp⟩)
  have eq := eq_nilL (both_nm a b (p := fun x => !decide (val A x = val B x))) fl
  rw [filt_eq] at eq
  have hl : ((keysC A ++ keysC B).map D.str).length ≤ sizeLine := line_pos (by rw [List.length_map]; omega)
  have ad : gAdd [.lst ((keysC A).map D.str), .lst ((keysC B).map D.str)] = some (.lst ((keysC A ++ keysC B).map D.str)) := by
    rw [List.map_append]
    exact add_lst (by rw [List.length_map, List.length_map, ← List.length_append]; omega)
  have ga := gDict_cv a
  have gb := gDict_cv b
  have da := list_dct A
  have db := list_dct B
  generalize dC A = DA at *
  generalize dC B = DB at *
  generalize List.map D.str (List.filter (fun x => !decide (val A x = val B x)) (keysC A ++ keysC B)) = Z at *
  generalize List.map D.str (keysC A ++ keysC B) = Y at *
  have c : c0_L_equal [.fro (cT A), .fro (cT B), .fro (.lst Y), .fro DA, .fro DB, .no] = .ok (.lst Z) [.fro (cT A), .fro (cT B), .fro (.lst Y), .fro DA, .fro DB, .no] := by
    unfold c0_L_equal sComp
    simp [itemsD, plainAt, hl, wipeE, e, backE]
  show runP 6 2 b_L_equal _ = _
  unfold runP b_L_equal
  simp [ga, gb, line2, da, db, ad, c, eq]
theorem lle_ok {n m : Nat} {A B : CL} (a : CK n A) (b : CK m B) (hn : n ≤ 500) (hm : m ≤ 500) : m_L_at_most [cT A, cT B] = .ok (.bl (leC A B)) [] := by
  have bl := both_len a b hn hm
  have fl : ((keysC A ++ keysC B).filter fun x => decide (val B x < val A x)).length ≤ 1000 := Nat.le_trans (List.length_filter_le ..) bl
  have e := comp1f (enc := D.str) (i := 4) (t := sTst (sOps gGt (b2 (sVal (sGet2 (sLoc 2) (sVar 4) (sCst (.int 0)))) (sVal (sGet2 (sLoc 3) (sVar 4) (sCst (.int 0)))))))
    (s := sVar 4) (ρ := [.fro (cT A), .fro (cT B), .fro (dC A), .fro (dC B), .no]) (xs := keysC A ++ keysC B) D.str (fun x => decide (val B x < val A x)) rfl
    (fun x _ => ⟨by unfold dC; simp [look_val, gGt, lexI, D.truth], fun _ => by simp⟩)
  have eq := eq_nilL (both_nm a b (p := fun x => decide (val B x < val A x))) fl
  rw [filt_le] at eq
  have hl : ((keysC A ++ keysC B).map D.str).length ≤ sizeLine := line_pos (by rw [List.length_map]; omega)
  have ad : gAdd [.lst ((keysC A).map D.str), .lst ((keysC B).map D.str)] = some (.lst ((keysC A ++ keysC B).map D.str)) := by
    rw [List.map_append]
    exact add_lst (by rw [List.length_map, List.length_map, ← List.length_append]; omega)
  have ga := gDict_cv a
  have gb := gDict_cv b
  have da := list_dct A
  have db := list_dct B
  generalize dC A = DA at *
  generalize dC B = DB at *
  generalize List.map D.str (List.filter (fun x => decide (val B x < val A x)) (keysC A ++ keysC B)) = Z at *
  generalize List.map D.str (keysC A ++ keysC B) = Y at *
  have c : c0_L_at_most [.fro (cT A), .fro (cT B), .fro DA, .fro DB, .no] = .ok (.lst Z) [.fro (cT A), .fro (cT B), .fro DA, .fro DB, .no] := by
    unfold c0_L_at_most sComp
    simp [da, db, ad, itemsD, plainAt, hl, wipeE, e, backE]
  show runP 5 2 b_L_at_most _ = _
  unfold runP b_L_at_most
  simp [ga, gb, line2, c, eq]
end Lw

/-! The law's own ranking. -/
namespace Lw
open Dt PySem
theorem at_comp {A F : CL} {m : Int} {p : Str × Int} {c4 : Cell} (hF : F.length ≤ 1000) : c0_L_ranked [.fro (cT A), .fro (.int m), .fro (.lst (F.map cD)), .fro (cD p), c4, .no] = .ok (.lst ((F.filter fun q => decide (p.2 ≤ q.2)).map fun _ => .int 1)) [.fro (cT A), .fro (.int m), .fro (.lst (F.map cD)), .fro (cD p), c4, .no] := by
  have i1 : ∀ q : Str × Int, gIdx [cD q, .int 1] = some (.int q.2) := fun _ => rfl
  have e := comp1f (enc := cD) (i := 5) (t := sTst (sOps gGe (b2 (sVal (sOps gIdx (b2 (sLoc 5) (sVal (sCst (.int 1)))))) (sVal (sOps gIdx (b2 (sLoc 3) (sVal (sCst (.int 1)))))))))
    (s := sCst (.int 1)) (ρ := [.fro (cT A), .fro (.int m), .fro (.lst (F.map cD)), .fro (cD p), c4, .no]) (xs := F) (fun _ => .int 1) (fun q => decide (p.2 ≤ q.2)) rfl
    (fun q _ => ⟨by simp [i1, gGe, lexI, D.truth], fun _ => by simp⟩)
  have hl : (F.map cD).length ≤ sizeLine := line_pos (by rw [List.length_map]; omega)
  generalize List.map cD F = Y at *
  unfold c0_L_ranked sComp
  simp [itemsD, plainAt, hl, wipeE, e, backE]
theorem turn_rank {A F : CL} {m : Int} {p : Str × Int} {c4 : Cell} (hF : F.length ≤ 1000) (h4 : c4 = .no ∨ ∃ d, c4 = .fro d) :
    ∃ i : Int, t0_L_ranked [.fro (cT A), .fro (.int m), .own (.lst (F.map cD)), .fro (cD p), c4, .no] = .ok .nx [.fro (cT A), .fro (.int m), .own (.lst ((insR F p).map cD)), .fro (cD p), .fro (.int i), .no] := by
  refine ⟨(F.filter fun q => decide (p.2 ≤ q.2)).length, ?_⟩
  have c := at_comp (A := A) (m := m) (p := p) (c4 := c4) hF
  have fl : (F.filter fun q => decide (p.2 ≤ q.2)).length ≤ F.length := List.length_filter_le ..
  have lz : gLen [.lst ((F.filter fun q => decide (p.2 ≤ q.2)).map fun _ => .int 1)] = some (.int ((F.filter fun q => decide (p.2 ≤ q.2)).length)) := by
    show some (D.int (List.length _)) = _
    rw [List.length_map]
  have ld := ev_lendL 2 (sOps gLen (bCons (sVal c0_L_ranked) bNil)) [.fro (cT A), .fro (.int m), .own (.lst (F.map cD)), .fro (cD p), c4, .no] (ds := F.map cD) rfl
    (v := .int ((F.filter fun q => decide (p.2 ≤ q.2)).length)) (by simp [c, lz]) rfl (by rcases h4 with rfl | ⟨d, rfl⟩ <;> simp [cellFreeL])
  have hs : (F.map cD).length < sizeLine := small_line (by rw [List.length_map]; omega)
  have hi : mInsert (F.map cD) [.int ((F.filter fun q => decide (p.2 ≤ q.2)).length), cD p] = some (.non, (insR F p).map cD) := by
    unfold mInsert
    dsimp only
    rw [if_pos ⟨hs, by omega, by omega⟩]
    unfold insR
    rw [List.map_append, List.map_append, List.map_take, List.map_drop]
    rfl
  generalize (F.filter fun q => decide (p.2 ≤ q.2)).length = k at *
  unfold t0_L_ranked
  rw [ev_seq]
  have a1 : sAsg (gSet 4) (sLendL 2 (sOps gLen (bCons (sVal c0_L_ranked) bNil))) [.fro (cT A), .fro (.int m), .own (.lst (F.map cD)), .fro (cD p), c4, .no] = .ok .nx [.fro (cT A), .fro (.int m), .own (.lst (F.map cD)), .fro (cD p), .fro (.int k), .no] := by
    rcases h4 with rfl | ⟨d, rfl⟩ <;> simp [ld]
  rw [a1]
  generalize List.map cD F = Y at *
  simp [heldL, hi, put]
theorem insR_len (F : CL) (p : Str × Int) : (insR F p).length = F.length + 1 := by
  unfold insR
  rw [List.length_append, List.length_append, List.length_take, List.length_drop, List.length_singleton]
  have : (F.filter fun q => decide (p.2 ≤ q.2)).length ≤ F.length := List.length_filter_le ..
  omega
theorem loop_rank {A : CL} {m : Int} : ∀ (C F : CL) {c3 c4 : Cell}, F.length + C.length ≤ 1000 → (c3 = .no ∨ ∃ d, c3 = .fro d) → (c4 = .no ∨ ∃ d, c4 = .fro d) →
    ∃ x y, forGo (gSet 3) t0_L_ranked (C.map cD) [.fro (cT A), .fro (.int m), .own (.lst (F.map cD)), c3, c4, .no] = .ok .nx [.fro (cT A), .fro (.int m), .own (.lst ((C.foldl insR F).map cD)), x, y, .no]
  | [], F, c3, c4, _, _, _ => ⟨c3, c4, rfl⟩
  | p :: C, F, c3, c4, hl, h3, h4 => by
    rw [List.length_cons] at hl
    obtain ⟨i, e⟩ := turn_rank (A := A) (F := F) (m := m) (p := p) (c4 := c4) (by omega) h4
    obtain ⟨x, y, ih⟩ := loop_rank (A := A) (m := m) C (insR F p) (c3 := .fro (cD p)) (c4 := .fro (.int i)) (by rw [insR_len]; omega) (.inr ⟨_, rfl⟩) (.inr ⟨_, rfl⟩)
    refine ⟨x, y, ?_⟩
    rw [List.map_cons]
    unfold forGo
    have g : gSet 3 (cD p) [.fro (cT A), .fro (.int m), .own (.lst (F.map cD)), c3, c4, .no] = .ok () [.fro (cT A), .fro (.int m), .own (.lst (F.map cD)), .fro (cD p), c4, .no] := by
      rcases h3 with rfl | ⟨d, rfl⟩ <;> rfl
    rw [g, R.bind_ok, e, R.bind_ok]
    exact ih
theorem lranked_ok {A : CL} (hA : A.length ≤ 1000) (m : Nat) : m_L_ranked [cT A, .int m] = .ok (.lst (((rankC A).take m).map cD)) [] := by
  obtain ⟨x, y, e⟩ := loop_rank (A := A) (m := m) A [] (c3 := .no) (c4 := .no) (by simpa using hA) (.inl rfl) (.inl rfl)
  rw [fold_rank] at e
  have sl := take_slice ((rankC A).map cD) m
  rw [← List.map_take] at sl
  have e' : forGo (gSet 3) t0_L_ranked (A.map cD) [.fro (cT A), .fro (.int m), .own (.lst []), .no, .no, .no] = .ok .nx [.fro (cT A), .fro (.int m), .own (.lst ((rankC A).map cD)), x, y, .no] := e
  have ia : itemsD (cT A) = some (A.map cD) := rfl
  generalize List.map cD (List.take m (rankC A)) = Z at *
  generalize List.map cD (rankC A) = Y at *
  show runP 6 2 b_L_ranked _ = _
  unfold runP b_L_ranked l0_L_ranked sFor
  simp [ia, e', sl]
end Lw

/-! each: every key so often as it counts. -/
namespace Lw
open Dt PySem
def dueC (C : CL) : List Str := C.flatMap fun p => List.replicate p.2.toNat p.1
def Few (C : CL) : Prop := ∀ p ∈ C, -10 ≤ p.2 ∧ p.2 ≤ 10
theorem due_len : ∀ {C : CL}, Few C → (dueC C).length ≤ 10 * C.length
  | [], _ => Nat.le_refl _
  | p :: C, h => by
    have ih := due_len (C := C) fun q hq => h q (.tail _ hq)
    have hp := h p (.head _)
    unfold dueC at ih ⊢
    rw [List.flatMap_cons, List.length_append, List.length_replicate, List.length_cons]
    omega
theorem inner_each {c0 : Cell} {x : Str} {c2 : Cell} : ∀ (ds : List D) (o : List D) {c3 : Cell}, (c3 = .no ∨ ∃ d, c3 = .fro d) → o.length + ds.length ≤ 10000 →
    ∃ c3', (c3' = .no ∨ ∃ d, c3' = .fro d) ∧ forGn (gSet 3) t0_each ds o [c0, .fro (.str x), c2, c3] = .ok (.nx, o ++ List.replicate ds.length (.str x)) [c0, .fro (.str x), c2, c3']
  | [], o, c3, h3, _ => ⟨c3, h3, by simp [forGn]⟩
  | d :: ds, o, c3, h3, hl => by
    rw [List.length_cons] at hl
    obtain ⟨c3', h', ih⟩ := inner_each (c0 := c0) (x := x) (c2 := c2) ds (o ++ [.str x]) (c3 := .fro d) (.inr ⟨_, rfl⟩) (by rw [List.length_append, List.length_singleton]; omega)
    refine ⟨c3', h', ?_⟩
    have g : gSet 3 d [c0, .fro (.str x), c2, c3] = .ok () [c0, .fro (.str x), c2, .fro d] := by rcases h3 with rfl | ⟨_, rfl⟩ <;> rfl
    have ho : o.length < sizeLine := small_line (by omega)
    have t : t0_each o [c0, .fro (.str x), c2, .fro d] = .ok (.nx, o ++ [.str x]) [c0, .fro (.str x), c2, .fro d] := by
      unfold t0_each gnS gnY gnN
      rw [if_pos ho]
      rfl
    unfold forGn
    rw [g, R.bind_ok, t, R.bind_ok]
    show forGn _ _ _ _ _ = _
    rw [ih, List.append_assoc, List.length_cons, List.replicate_succ]
    rfl
theorem outer_each {c0 : Cell} : ∀ (C : CL) (o : List D) {c1 c2 c3 : Cell}, Few C → (c1 = .no ∨ ∃ d, c1 = .fro d) → (c2 = .no ∨ ∃ d, c2 = .fro d) → (c3 = .no ∨ ∃ d, c3 = .fro d) → o.length + 10 * C.length ≤ 10000 →
    ∃ x y z, forGn (gTup' 2 (gC (gSet 1) (gC (gSet 2) gN))) t1_each (C.map cD) o [c0, c1, c2, c3] = .ok (.nx, o ++ (dueC C).map D.str) [c0, x, y, z]
  | [], o, c1, c2, c3, _, _, _, _, _ => ⟨c1, c2, c3, by simp [forGn, dueC]⟩
  | p :: C, o, c1, c2, c3, hf, h1, h2, h3, hl => by
    rw [List.length_cons] at hl
    have hp := hf p (.head _)
    obtain ⟨c3', h', i1⟩ := inner_each (c0 := c0) (x := p.1) (c2 := .fro (.int p.2)) (upto 0 p.2.toNat) o (c3 := c3) h3 (by simp [upto]; omega)
    have ul : (upto 0 p.2.toNat).length = p.2.toNat := by simp [upto]
    rw [ul] at i1
    obtain ⟨x, y, z, ih⟩ := outer_each (c0 := c0) C (o ++ List.replicate p.2.toNat (.str p.1)) (c1 := .fro (.str p.1)) (c2 := .fro (.int p.2)) (c3 := c3') (fun q hq => hf q (.tail _ hq)) (.inr ⟨_, rfl⟩) (.inr ⟨_, rfl⟩) h' (by rw [List.length_append, List.length_replicate]; omega)
    refine ⟨x, y, z, ?_⟩
    have g : gTup' 2 (gC (gSet 1) (gC (gSet 2) gN)) (cD p) [c0, c1, c2, c3] = .ok () [c0, .fro (.str p.1), .fro (.int p.2), c3] := by
      rcases h1 with rfl | ⟨_, rfl⟩ <;> rcases h2 with rfl | ⟨_, rfl⟩ <;> simp [cD]
    have hr : rng1D [.int p.2] = some (upto 0 p.2.toNat) := by
      unfold rng1D
      exact if_pos ⟨by omega, by omega⟩
    have t : t1_each o [c0, .fro (.str p.1), .fro (.int p.2), c3] = .ok (.nx, o ++ List.replicate p.2.toNat (.str p.1)) [c0, .fro (.str p.1), .fro (.int p.2), c3'] := by
      have a1 : l0_each o [c0, .fro (.str p.1), .fro (.int p.2), c3] = .ok (.nx, o ++ List.replicate p.2.toNat (.str p.1)) [c0, .fro (.str p.1), .fro (.int p.2), c3'] := by
        unfold l0_each gnFor
        simp [hr, i1]
      unfold t1_each gnS gnN
      rw [a1]
      rfl
    rw [List.map_cons]
    unfold forGn
    rw [g, R.bind_ok, t, R.bind_ok]
    show forGn _ _ _ _ _ = _
    rw [ih, List.append_assoc]
    unfold dueC
    rw [List.flatMap_cons, List.map_append, List.map_replicate]
theorem each_ok {n : Nat} {C : CL} (c : CK n C) (hf : Few C) (hn : n ≤ 500 := by decide) : m_each [cT C] = some ((dueC C).map D.str) := by
  have lk := looked_1 c hn
  have lc := c.len
  obtain ⟨x, y, z, e⟩ := outer_each (c0 := .fro (cT C)) C [] (c1 := .no) (c2 := .no) (c3 := .no) hf (.inl rfl) (.inl rfl) (.inl rfl) (by rw [List.length_nil]; omega)
  have ia : itemsD (cT C) = some (C.map cD) := rfl
  show runGn 4 1 b_each _ = _
  have a0 : sExpr (sCallS m_looked (sCons (sVar 0) sNil)) [.fro (cT C), .no, .no, .no] = .ok .nx [.fro (cT C), .no, .no, .no] := by simp [lk, line1]
  have a1 : l1_each [] [.fro (cT C), .no, .no, .no] = .ok (.nx, (dueC C).map D.str) [.fro (cT C), x, y, z] := by
    unfold l1_each gnFor
    have ii : iAny (sVar 0) [.fro (cT C), .no, .no, .no] = .ok (C.map cD) [.fro (cT C), .no, .no, .no] := by simp [ia]
    rw [ii, R.bind_ok, e]
    rfl
  have ab : b_each [] [.fro (cT C), .no, .no, .no] = .ok (.nx, (dueC C).map D.str) [.fro (cT C), x, y, z] := by
    unfold b_each gnS gnP gnN
    rw [a0]
    show (R.bind (l1_each _ _) _) = _
    rw [a1]
    rfl
  unfold runGn
  show (match b_each [] [.fro (cT C), .no, .no, .no] with | .ok (.nx, o) _ => some o | _ => none) = _
  rw [ab]
end Lw

/-! The law k04 on every script: the parts of a turn. -/
namespace Lw
open Dt PySem
theorem ctr_okW {t : D} {p : Bool} (h : TapeOk t) : ∃ C t', m_L_counter [t, .int 6, .bl p] = .ok (cT C) [t'] ∧ TapeOk t' ∧ CV (· ∈ keyW) 6 C := by
  obtain ⟨σ, cs, t', e, h', v⟩ := counter_ok (lim := 6) (p := p) h (by decide)
  refine ⟨σ.zip cs, t', ?_, h', v.cv⟩
  rw [cntT_zip] at e
  exact e
theorem like_bl (b : Bool) : m_L_like 40 [.bl b, .bl b] = .ok (.bl true) [] := like_ok (m := 8) (by decide) 40 0 (by decide) (by decide) ok_bl
theorem like_int (i : Int) : m_L_like 40 [.int i, .int i] = .ok (.bl true) [] := like_ok (m := 8) (by decide) 40 0 (by decide) (by decide) ok_int
theorem like_rows {n : Nat} {A : CL} (a : CK n A) (hn : n ≤ 500) (m : Nat) : m_L_like 40 [.lst (((rankC A).take m).map cD), .lst (((rankC A).take m).map cD)] = .ok (.bl true) [] := by
  have la := a.len
  refine like_ok (m := 1000) (by decide) 40 2 (by decide) (by decide) (ok_lst.mpr ⟨?_, fun d hd => ?_⟩)
  · rw [List.length_map, List.length_take, rank_len]
    omega
  · obtain ⟨p, hp, rfl⟩ := List.mem_map.mp hd
    have hp := isort_mem (List.mem_of_mem_take hp)
    refine ok_tup.mpr ⟨by simp, fun d hd => ?_⟩
    simp only [List.mem_cons, List.not_mem_nil, or_false] at hd
    rcases hd with rfl | rfl
    · exact (ok_str (m := 8) (n := 0).mpr (cv_row a hp).1).mono (by decide) (by decide)
    · exact ok_int
/-! ### the other counter -/
def qrS : List Str := ["q", "r"]
def qs (k : Nat) : List Str := qrS.take k
def qC (k : Nat) : CL := (qs k).map fun x => (x, 0)
theorem qs_mem {k : Nat} {x : Str} (h : x ∈ qs k) : x = "q" ∨ x = "r" := by
  have h := List.mem_of_mem_take h
  unfold qrS at h
  simpa using h
theorem qs_nm {k : Nat} {x : Str} (h : x ∈ qs k) : NmOk x := by
  rcases qs_mem h with rfl | rfl <;> (unfold NmOk; decide +kernel)
theorem qs_keyW {k : Nat} {x : Str} (h : x ∈ qs k) : x ∉ keyW := by
  rcases qs_mem h with rfl | rfl <;> (unfold keyW; decide +kernel)
theorem keys_qC (k : Nat) : keysC (qC k) = qs k := by
  unfold keysC qC
  rw [List.map_map]
  exact List.map_id _
theorem qs_nd (k : Nat) : (qs k).Nodup := List.Nodup.sublist (List.take_sublist ..) (by decide +kernel)
theorem rev_ck {A : CL} (a : CV (· ∈ keyW) 6 A) (k : Nat) : CK 8 (A.reverse ++ qC k) := by
  have ek : keysC (A.reverse ++ qC k) = (keysC A).reverse ++ qs k := by
    rw [← keys_qC k]
    unfold keysC
    rw [List.map_append, List.map_reverse]
  refine ⟨?_, fun x hx => ?_, ?_⟩
  · rw [ek]
    refine List.nodup_append.mpr ⟨List.pairwise_reverse.mpr (a.nd.imp Ne.symm), qs_nd k, fun x hx y hy e => ?_⟩
    subst e
    exact qs_keyW hy (a.keys x (List.mem_reverse.mp hx))
  · rw [ek] at hx
    rcases List.mem_append.mp hx with hx | hx
    · exact keyW_ok (a.keys x (List.mem_reverse.mp hx))
    · exact qs_nm hx
  · have la := a.len
    have lq : (qC k).length ≤ 2 := by
      unfold qC qs
      rw [List.length_map, List.length_take]
      exact Nat.min_le_right ..
    rw [List.length_append, List.length_reverse]
    omega
section
variable {S : D} {c2 c3 c4 c5 c6 c7 : Cell}
theorem c0_ok {x8 x9 : Option D} {t : D} (h : TapeOk t) : ∃ k t', c0_law [.fro S, .own t, c2, c3, c4, c5, c6, c7, pl x8, pl x9] = .ok (.lst ((qC k).map cD)) [.fro S, .own t', c2, c3, c4, c5, c6, c7, pl x8, pl x9] ∧ TapeOk t' := by
  obtain ⟨k, t1, e1, h1, hk⟩ := draw_len (m := 3) h (by decide) (by decide)
  have e1 : m_L_draw [t, .int 3] = .ok (.int k) [t1] := e1
  refine ⟨k, t1, ?_, h1⟩
  have sl : sliceD (.lst [.str "q", .str "r"]) none (some (k : Int)) = some (.lst ((qs k).map D.str)) := by
    rw [take_slice]
    unfold qs
    rw [List.map_take]
    rfl
  have e := comp1e (enc := D.str) (i := 8) (s := sTup (sCons (sVar 8) (sCons (sCst (.int 0)) sNil))) (ρ := [.fro S, .own t1, c2, c3, c4, c5, c6, c7, .no, pl x9]) (xs := qs k) (fun x => .tup [.str x, .int 0]) rfl
    (fun x _ => by simp [line2])
  have er : (qs k).map (fun x => D.tup [.str x, .int 0]) = (qC k).map cD := by
    unfold qC
    rw [List.map_map]
    rfl
  rw [er] at e
  have hz : ((qs k).map D.str).length ≤ sizeLine := line_pos (by
    unfold qs
    rw [List.length_map, List.length_take]
    exact Nat.le_trans (Nat.min_le_right ..) (by decide))
  generalize (qC k).map cD = Z at *
  generalize (qs k).map D.str = Y at *
  unfold c0_law sComp
  simp [line2, e1, sl, itemsD, plain_cons, plain_nil, hz, wipeE, e, backE]
theorem c1_ok {x8 x9 : Option D} {t : D} {A : CL} {n : Nat} (a : CK n A) (hn : n ≤ 500) : c1_law [.fro S, .own t, c2, c3, c4, c5, .fro (cT A), c7, pl x8, pl x9] = .ok (.lst (A.map fun p => .int p.2)) [.fro S, .own t, c2, c3, c4, c5, .fro (cT A), c7, pl x8, pl x9] := by
  have la := a.len
  have e := comp_map (vs := [8, 9]) (g := gTup' 2 (gC (gSet 8) (gC (gSet 9) gN))) (t := tT1) (s := sVar 9) (f := fun d => match d with | .tup [_, c] => c | d => d) (p := fun _ => true) (ρ := [.fro S, .own t, c2, c3, c4, c5, .fro (cT A), c7, .no, .no]) (ds := A.map cD)
    (fun d hd => by
      obtain ⟨p, _, rfl⟩ := List.mem_map.mp hd
      exact ⟨[.fro S, .own t, c2, c3, c4, c5, .fro (cT A), c7, .fro (.str p.1), .fro (.int p.2)], [.fro S, .own t, c2, c3, c4, c5, .fro (cT A), c7, .fro (.str p.1), .fro (.int p.2)], by simp [cD], rfl, by simp [plainAt], by simp [wipeE], fun _ => ⟨[.fro S, .own t, c2, c3, c4, c5, .fro (cT A), c7, .fro (.str p.1), .fro (.int p.2)], by simp [cD], by simp [plainAt], by simp [wipeE]⟩⟩)
  have hl : (A.map cD).length ≤ sizeLine := line_pos (by rw [List.length_map]; omega)
  rw [List.filter_eq_self.mpr (fun _ _ => rfl), List.map_map] at e
  have hi : itemsD (cT A) = some (A.map cD) := rfl
  have er : A.map ((fun d => match d with | .tup [_, c] => c | d => d) ∘ cD) = A.map fun p => .int p.2 := rfl
  rw [er] at e
  generalize A.map cD = Y at *
  generalize (A.map fun p => D.int p.2) = Z at *
  unfold c1_law sComp
  simp [hi, plain_cons, plain_nil, hl, wipeE, e, backE]
def smallC (A : CL) : CL := A.map fun p => (p.1, p.2 % 7 - 2)
theorem small_keys (A : CL) : keysC (smallC A) = keysC A := by
  unfold keysC smallC
  rw [List.map_map]
  rfl
theorem small_ck {n : Nat} {A : CL} (a : CK n A) : CK n (smallC A) := ⟨by rw [small_keys]; exact a.nd, by rw [small_keys]; exact a.keys, by unfold smallC; rw [List.length_map]; exact a.len⟩
theorem small_few (A : CL) : Few (smallC A) := fun p hp => by
  obtain ⟨q, _, rfl⟩ := List.mem_map.mp hp
  have h1 := Int.emod_nonneg q.2 (show (7 : Int) ≠ 0 by decide)
  have h2 := Int.emod_lt_of_pos q.2 (show (0 : Int) < 7 by decide)
  show -10 ≤ q.2 % 7 - 2 ∧ q.2 % 7 - 2 ≤ 10
  omega
theorem c2_ok {x8 x9 : Option D} {t : D} {A : CL} {n : Nat} (a : CK n A) (hn : n ≤ 500) : c2_law [.fro S, .own t, c2, c3, c4, c5, .fro (cT A), c7, pl x8, pl x9] = .ok (.lst ((smallC A).map cD)) [.fro S, .own t, c2, c3, c4, c5, .fro (cT A), c7, pl x8, pl x9] := by
  have la := a.len
  have e := comp_map (vs := [8, 9]) (g := gTup' 2 (gC (gSet 8) (gC (gSet 9) gN))) (t := tT1) (s := sTup (sCons (sVar 8) (sCons (sOps gSub (b2 (sVal (sOps gMod (b2 (sVal (sOps gInt (bCons (sLoc 9) bNil))) (sVal (sCst (.int 7)))))) (sVal (sCst (.int 2))))) sNil))) (f := fun d => match d with | .tup [k, .int c] => .tup [k, .int (c % 7 - 2)] | d => d) (p := fun _ => true) (ρ := [.fro S, .own t, c2, c3, c4, c5, .fro (cT A), c7, .no, .no]) (ds := A.map cD)
    (fun d hd => by
      obtain ⟨p, _, rfl⟩ := List.mem_map.mp hd
      exact ⟨[.fro S, .own t, c2, c3, c4, c5, .fro (cT A), c7, .fro (.str p.1), .fro (.int p.2)], [.fro S, .own t, c2, c3, c4, c5, .fro (cT A), c7, .fro (.str p.1), .fro (.int p.2)], by simp [cD], rfl, by simp [plainAt], by simp [wipeE], fun _ => ⟨[.fro S, .own t, c2, c3, c4, c5, .fro (cT A), c7, .fro (.str p.1), .fro (.int p.2)], by simp [cD, gInt, gMod, gSub, gI, line2], by simp [plainAt], by simp [wipeE]⟩⟩)
  have hl : (A.map cD).length ≤ sizeLine := line_pos (by rw [List.length_map]; omega)
  rw [List.filter_eq_self.mpr (fun _ _ => rfl), List.map_map] at e
  have hi : itemsD (cT A) = some (A.map cD) := rfl
  have er : A.map ((fun d => match d with | .tup [k, .int c] => D.tup [k, .int (c % 7 - 2)] | d => d) ∘ cD) = (smallC A).map cD := by
    unfold smallC
    rw [List.map_map]
    rfl
  rw [er] at e
  generalize A.map cD = Y at *
  generalize (smallC A).map cD = Z at *
  unfold c2_law sComp
  simp [hi, plain_cons, plain_nil, hl, wipeE, e, backE]
end
end Lw

/-! The law k04 on every script. -/
namespace Lw
open Dt PySem
theorem max2_pos (c : Int) : gMax2 [.int 0, .int c] = some (.int (c.toNat : Int)) := by
  have e : (if c > 0 then c else 0) = (c.toNat : Int) := by split <;> omega
  show some (D.int (if c > 0 then c else 0)) = _
  rw [e]
theorem repL_one {x : Str} {k : Nat} (hk : k ≤ 10) : gRepL [.lst [.str x], .int (k : Int)] = some (.lst ((List.replicate k x).map D.str)) := by
  have hs : ([D.str x] : List D).length * ((k : Int)).toNat ≤ sizeLine := line_pos (by rw [List.length_singleton, Int.toNat_natCast]; omega)
  have b1 : -(2 ^ 63) ≤ (k : Int) := by omega
  have b2 : (k : Int) < 2 ^ 63 := by omega
  have e : (List.replicate ((k : Int)).toNat [D.str x]).flatten = (List.replicate k x).map D.str := by
    rw [List.map_replicate, Int.toNat_natCast, PyProof.Rows.lm_rep_flat_one]
  have z : gRepL [.lst [.str x], .int (k : Int)] = if -(2 ^ 63) ≤ (k : Int) ∧ (k : Int) < 2 ^ 63 ∧ ([D.str x] : List D).length * ((k : Int)).toNat ≤ sizeLine then some (.lst (List.replicate ((k : Int)).toNat [D.str x]).flatten) else none := by unfold gRepL; rfl
  rw [z, if_pos ⟨b1, b2, hs⟩, e]
theorem due_stG {G : List D → Option D} {S t : D} {c2 c3 c4 c5 c6 c7 : Cell} {x : Str} {c : Int} {k : Nat} {V Y Z : List D} (h5 : c5 = .own (.lst V) ∨ c5 = .fro (.lst V)) (gm : gMax2 [.int 0, .int c] = some (.int k)) (gr : G [.lst [.str x], .int k] = some (.lst Y)) (ga : gAdd [.lst V, .lst Y] = some (.lst Z)) :
    (sAsg (gSet 5) (sOps gAdd (b2 (sLoc 5) (sVal (sOps G (b2 (sVal (sLst (sCons (sVar 8) sNil))) (sVal (sOps gMax2 (bCons (sVal (sCst (.int 0))) (bCons (sVal (sOps gInt (bCons (sLoc 9) bNil))) bNil)))))))))) [.fro S, .own t, c2, c3, c4, c5, c6, c7, .fro (.str x), .fro (.int c)] = .ok .nx [.fro S, .own t, c2, c3, c4, .fro (.lst Z), c6, c7, .fro (.str x), .fro (.int c)] := by
  rcases h5 with rfl | rfl <;> simp [gInt, gm, line1, gr, ga]
theorem due_st {S t : D} {c2 c3 c4 c5 c6 c7 : Cell} {x : Str} {c : Int} {k : Nat} {V Y Z : List D} (h5 : c5 = .own (.lst V) ∨ c5 = .fro (.lst V)) (gm : gMax2 [.int 0, .int c] = some (.int k)) (gr : gRepL [.lst [.str x], .int k] = some (.lst Y)) (ga : gAdd [.lst V, .lst Y] = some (.lst Z)) :
    t1_law [.fro S, .own t, c2, c3, c4, c5, c6, c7, .fro (.str x), .fro (.int c)] = .ok .nx [.fro S, .own t, c2, c3, c4, .fro (.lst Z), c6, c7, .fro (.str x), .fro (.int c)] := by
  unfold t1_law
  exact due_stG (G := gRepL) h5 gm gr ga
section
variable {S : D} {c2 c4 c5 c7 c8 c9 : Cell} {t : D}
theorem l0_one {A : CL} {n : Nat} (a : CK n A) (hn : n ≤ 500) (m : Nat) : t0_law [.fro S, .own t, c2, .fro (.int m), c4, c5, .fro (cT A), c7, c8, c9] = .ok .nx [.fro S, .own t, c2, .fro (.int m), c4, c5, .fro (cT A), c7, c8, c9] := by
  have mo := most_ok a hn m
  have lr := lranked_ok (A := A) (by have := a.len; omega) m
  have li := like_rows a hn m
  generalize ((rankC A).take m).map cD = Z at *
  generalize cT A = Y at *
  unfold t0_law
  simp [mo, lr, li, line2, D.truth]
theorem l0_go {A : CL} {n : Nat} (a : CK n A) (hn : n ≤ 500) : ∀ (ms : List Nat) {x3 : Option D}, ∃ y3, forGo (gSet 3) t0_law (ms.map fun m : Nat => D.int (m : Int)) [.fro S, .own t, c2, pl x3, c4, c5, .fro (cT A), c7, c8, c9] = .ok .nx [.fro S, .own t, c2, pl y3, c4, c5, .fro (cT A), c7, c8, c9]
  | [], x3 => ⟨x3, rfl⟩
  | m :: ms, x3 => by
    obtain ⟨y3, ih⟩ := l0_go a hn ms (x3 := some (.int m))
    refine ⟨y3, ?_⟩
    rw [List.map_cons]
    unfold forGo
    have g : gSet 3 (.int m) [.fro S, .own t, c2, pl x3, c4, c5, .fro (cT A), c7, c8, c9] = .ok () [.fro S, .own t, c2, .fro (.int m), c4, c5, .fro (cT A), c7, c8, c9] := by
      rw [gSet_soft (by simp)]
      rfl
    rw [g, R.bind_ok, l0_one a hn m, R.bind_ok]
    exact ih
theorem l0_ok {A : CL} {n : Nat} (a : CK n A) (hn : n ≤ 500) {x3 : Option D} : ∃ y3, l0_law [.fro S, .own t, c2, pl x3, c4, c5, .fro (cT A), c7, c8, c9] = .ok .nx [.fro S, .own t, c2, pl y3, c4, c5, .fro (cT A), c7, c8, c9] := by
  obtain ⟨y3, e⟩ := l0_go (S := S) (t := t) (c2 := c2) (c4 := c4) (c5 := c5) (c7 := c7) (c8 := c8) (c9 := c9) a hn [0, 1, 2, 3, A.length, 99] (x3 := x3)
  refine ⟨y3, ?_⟩
  have gl : gLen [cT A] = some (.int A.length) := by
    show some (D.int ((A.map cD).length : Nat)) = _
    rw [List.length_map]
  have l6 : (6 : Nat) ≤ sizeLine := line_pos (by decide)
  have e : forGo (gSet 3) t0_law [.int 0, .int 1, .int 2, .int 3, .int A.length, .int 99] [.fro S, .own t, c2, pl x3, c4, c5, .fro (cT A), c7, c8, c9] = .ok .nx [.fro S, .own t, c2, pl y3, c4, c5, .fro (cT A), c7, c8, c9] := e
  generalize cT A = Y at *
  unfold l0_law sFor
  simp [gl, l6, itemsD, e]
theorem due_one {X : List Str} {p : Str × Int} {c5 : Cell} {c3 c6 : Cell} (h5 : c5 = .own (.lst (X.map D.str)) ∨ c5 = .fro (.lst (X.map D.str))) (hp : p.2 ≤ 10) (hX : X.length ≤ 5000) :
    t1_law [.fro S, .own t, c2, c3, c4, c5, c6, c7, .fro (.str p.1), .fro (.int p.2)] = .ok .nx [.fro S, .own t, c2, c3, c4, .fro (.lst ((X ++ List.replicate p.2.toNat p.1).map D.str)), c6, c7, .fro (.str p.1), .fro (.int p.2)] := by
  have gm := max2_pos p.2
  have gr := repL_one (x := p.1) (k := p.2.toNat) (by omega)
  have ga : gAdd [.lst (X.map D.str), .lst ((List.replicate p.2.toNat p.1).map D.str)] = some (.lst ((X ++ List.replicate p.2.toNat p.1).map D.str)) := by
    rw [List.map_append]
    exact add_lst (by rw [List.length_map, List.length_map, List.length_replicate]; omega)
  exact due_st h5 gm gr ga
theorem due_go {c3 c6 : Cell} : ∀ (C : CL) (X : List Str) {c5 : Cell} {x8 x9 : Option D}, Few C → (c5 = .own (.lst (X.map D.str)) ∨ c5 = .fro (.lst (X.map D.str))) → X.length + 10 * C.length ≤ 5000 →
    ∃ d5 y8 y9, (d5 = .own (.lst ((X ++ dueC C).map D.str)) ∨ d5 = .fro (.lst ((X ++ dueC C).map D.str))) ∧ forGo (gTup' 2 (gC (gSet 8) (gC (gSet 9) gN))) t1_law (C.map cD) [.fro S, .own t, c2, c3, c4, c5, c6, c7, pl x8, pl x9] = .ok .nx [.fro S, .own t, c2, c3, c4, d5, c6, c7, pl y8, pl y9]
  | [], X, c5, x8, x9, _, h5, _ => ⟨c5, x8, x9, by simpa [dueC] using h5, rfl⟩
  | p :: C, X, c5, x8, x9, hf, h5, hl => by
    rw [List.length_cons] at hl
    have hp := hf p (.head _)
    obtain ⟨d5, y8, y9, h', ih⟩ := due_go (c3 := c3) (c6 := c6) C (X ++ List.replicate p.2.toNat p.1) (c5 := .fro (.lst ((X ++ List.replicate p.2.toNat p.1).map D.str))) (x8 := some (.str p.1)) (x9 := some (.int p.2)) (fun q hq => hf q (.tail _ hq)) (.inr rfl) (by rw [List.length_append, List.length_replicate]; omega)
    refine ⟨d5, y8, y9, ?_, ?_⟩
    · have e : X ++ dueC (p :: C) = X ++ List.replicate p.2.toNat p.1 ++ dueC C := by
        unfold dueC
        rw [List.flatMap_cons, List.append_assoc]
      rw [e]
      exact h'
    · have g : gTup' 2 (gC (gSet 8) (gC (gSet 9) gN)) (cD p) [.fro S, .own t, c2, c3, c4, c5, c6, c7, pl x8, pl x9] = .ok () [.fro S, .own t, c2, c3, c4, c5, c6, c7, .fro (.str p.1), .fro (.int p.2)] := by
        cases x8 <;> cases x9 <;> simp [cD, pl]
      rw [List.map_cons]
      unfold forGo
      rw [g, R.bind_ok, due_one h5 (by omega) (by omega), R.bind_ok]
      exact ih
end
theorem due_same {n : Nat} {C : CL} (c : CK n C) (hf : Few C) (hn : n ≤ 90) : gNe [.lst ((dueC C).map D.str), .lst ((dueC C).map D.str)] = some (.bl false) := by
  have lc := c.len
  have ld := due_len hf
  have o : Ok 1000 1 (.lst ((dueC C).map D.str)) := ok_lst.mpr ⟨by rw [List.length_map]; omega, fun d hd => by
    obtain ⟨x, hx, rfl⟩ := List.mem_map.mp hd
    obtain ⟨p, hp, h⟩ := List.mem_flatMap.mp hx
    rw [(List.mem_replicate.mp h).2]
    exact (ok_str (m := 8) (n := 0).mpr (cv_row c hp).1).mono (by decide) (by decide)⟩
  show (eqD _ _).map _ = _
  rw [eqD_self o (by decide)]
  rfl
section
variable {S tu : D}
theorem turn_ok {x3 x4 x6 x7 x8 x9 : Option D} {y5 : Sl} {t : D} (ht : TapeOk t) : Ends (t2_law [.fro S, .own t, .fro tu, pl x3, pl x4, sf y5, pl x6, pl x7, pl x8, pl x9]) (LandM S [true, true, true, false, true, true, true, true]) := by
  obtain ⟨A, t1, e1, h1, aw⟩ := ctr_okW (p := false) ht
  obtain ⟨B, t2, e2, h2, bw⟩ := ctr_okW (p := false) h1
  have a : CK 6 A := aw.imp fun _ => keyW_ok
  obtain ⟨k, t3, e3, h3, hk⟩ := draw_len (m := 2) h2 (by decide) (by decide)
  have e3 : m_L_draw [t2, .int 2] = .ok (.int k) [t3] := e3
  unfold t2_law
  refine Ends.seq (ρ' := [.fro S, .own t2, .fro tu, pl x3, pl x4, sf y5, .fro (cT A), .fro (cT B), pl x8, pl x9]) ?_ ?_
  · simp [-ev_gSet, gSet_soft, e1, e2]
  -- the other one
  obtain ⟨O, t4, h4, o, eo⟩ : ∃ O t4, TapeOk t4 ∧ CK 8 O ∧ (sIfS (sTst (sOps gEq (b2 (sVal (sCallI 1 2 (m_L_draw) (sCons (sCst (.int 2)) sNil))) (sVal (sCst (.int 0)))))) (sAsg (gSet 7) (sOps gAdd (b2 (sVal (sRevE (sLoc 6))) (sVal (sOps gTuple (bCons (sVal c0_law) bNil)))))) sNx) [.fro S, .own t2, .fro tu, pl x3, pl x4, sf y5, .fro (cT A), .fro (cT B), pl x8, pl x9] = .ok .nx [.fro S, .own t4, .fro tu, pl x3, pl x4, sf y5, .fro (cT A), .fro (cT O), pl x8, pl x9] := by
    by_cases hk0 : k = 0
    · subst hk0
      obtain ⟨j, t4, e4, h4⟩ := c0_ok (S := S) (c2 := .fro tu) (c3 := pl x3) (c4 := pl x4) (c5 := sf y5) (c6 := .fro (cT A)) (c7 := .fro (cT B)) (x8 := x8) (x9 := x9) h3
      have rc := rev_ck aw j
      refine ⟨A.reverse ++ qC j, t4, h4, rc, ?_⟩
      have gt : gTuple [.lst ((qC j).map cD)] = some (.tup ((qC j).map cD)) := rfl
      have hl := rc.len
      have ga : gAdd [.tup (A.map cD).reverse, .tup ((qC j).map cD)] = some (cT (A.reverse ++ qC j)) := by
        unfold cT
        rw [List.map_append, ← List.map_reverse]
        exact add_tup (by rw [List.length_map, List.length_map, ← List.length_append]; omega)
      have ct : cT A = .tup (A.map cD) := rfl
      rw [ct] at e4 ⊢
      generalize A.map cD = Y at *
      generalize (qC j).map cD = Z at *
      simp [-ev_gSet, gSet_soft, e3, gEq, e4, gt, ga]
    · refine ⟨B, t3, h3, (bw.imp fun _ => keyW_ok).mono (by decide), ?_⟩
      have hb : ((k : Int) == 0) = false := beq_eq_false_iff_ne.mpr (by omega)
      simp [e3, gEq, hb, hk0]
  refine Ends.seq eo ?_
  have q1 := op_equal a o
  have q2 := leq_ok a o (by decide) (by decide)
  have q3 := op_at_most a o
  have q4 := lle_ok a o (by decide) (by decide)
  have q5 := op_total a
  have q6 := c1_ok (S := S) (c2 := .fro tu) (c3 := pl x3) (c4 := pl x4) (c5 := sf y5) (c7 := .fro (cT O)) (x8 := x8) (x9 := x9) (t := t4) a (by decide)
  have q7 : gSum [.lst (A.map fun p => D.int p.2)] = some (.int (totC A)) := by
    simp [gSum, ints_of, totC]
  refine Ends.seq (ρ' := [.fro S, .own t4, .fro tu, pl x3, pl x4, sf y5, .fro (cT A), .fro (cT O), pl x8, pl x9]) ?_ ?_
  · simp [q1, q2, like_bl, line2, D.truth]
  refine Ends.seq (ρ' := [.fro S, .own t4, .fro tu, pl x3, pl x4, sf y5, .fro (cT A), .fro (cT O), pl x8, pl x9]) ?_ ?_
  · simp [q3, q4, like_bl, line2, D.truth]
  refine Ends.seq (ρ' := [.fro S, .own t4, .fro tu, pl x3, pl x4, sf y5, .fro (cT A), .fro (cT O), pl x8, pl x9]) ?_ ?_
  · generalize (A.map fun p => D.int p.2) = Z at *
    simp [q5, q6, q7, like_int, line2, D.truth]
  obtain ⟨y3, q8⟩ := l0_ok (S := S) (t := t4) (c2 := .fro tu) (c4 := pl x4) (c5 := sf y5) (c7 := .fro (cT O)) (c8 := pl x8) (c9 := pl x9) a (by decide) (x3 := x3)
  refine Ends.seq q8 ?_
  have q9 := c2_ok (S := S) (c2 := .fro tu) (c3 := pl y3) (c4 := pl x4) (c5 := sf y5) (c7 := .fro (cT O)) (x8 := x8) (x9 := x9) (t := t4) a (by decide)
  have gt : gTuple [.lst ((smallC A).map cD)] = some (cT (smallC A)) := rfl
  refine Ends.seq (ρ' := [.fro S, .own t4, .fro tu, pl y3, .fro (cT (smallC A)), sf y5, .fro (cT A), .fro (cT O), pl x8, pl x9]) ?_ ?_
  · generalize (smallC A).map cD = Z at *
    simp [-ev_gSet, gSet_soft, q9, gt]
  refine Ends.seq (ρ' := [.fro S, .own t4, .fro tu, pl y3, .fro (cT (smallC A)), .own (.lst []), .fro (cT A), .fro (cT O), pl x8, pl x9]) ?_ ?_
  · simp [-ev_gOwn, gOwn_soft]
  have sc := small_ck a
  have sw := small_few A
  have sl := sc.len
  obtain ⟨d5, y8, y9, h5, q10⟩ := due_go (S := S) (t := t4) (c2 := .fro tu) (c3 := pl y3) (c4 := .fro (cT (smallC A))) (c6 := .fro (cT A)) (c7 := .fro (cT O)) (smallC A) [] (c5 := .own (.lst [])) (x8 := x8) (x9 := x9) sw (.inl rfl) (by rw [List.length_nil]; omega)
  have ii : itemsD (cT (smallC A)) = some ((smallC A).map cD) := rfl
  have ql : l1_law [.fro S, .own t4, .fro tu, pl y3, .fro (cT (smallC A)), .own (.lst []), .fro (cT A), .fro (cT O), pl x8, pl x9] = .ok .nx [.fro S, .own t4, .fro tu, pl y3, .fro (cT (smallC A)), d5, .fro (cT A), .fro (cT O), pl y8, pl y9] := by
    generalize (smallC A).map cD = Z at *
    unfold l1_law sFor
    simp [ii, q10]
  refine Ends.seq ql ?_
  rw [List.nil_append] at h5
  have ec := each_ok sc sw
  have dn := due_same sc sw (by decide)
  generalize (dueC (smallC A)).map D.str = V at *
  refine Ends.one (ρ' := [.fro S, .own t4, .fro tu, pl y3, .fro (cT (smallC A)), d5, .fro (cT A), .fro (cT O), pl y8, pl y9]) ?_ ⟨t4, _, rfl, h4, ?_⟩
  · generalize cT (smallC A) = Y at *
    rcases h5 with rfl | rfl <;> simp [ec, dn, line1]
  · rcases h5 with rfl | rfl <;> simp
end
theorem x0_ck : CK 1 [("x", 0)] := ⟨by decide +kernel, fun x hx => by
  have : x = "x" := by simpa [keysC] using hx
  subst this
  unfold NmOk
  decide +kernel, by decide⟩
theorem x1_ck : CK 1 [("x", 1)] := ⟨by decide +kernel, fun x hx => by
  have : x = "x" := by simpa [keysC] using hx
  subst this
  unfold NmOk
  decide +kernel, by decide⟩
theorem plain : ∀ ns : List Int, ns.length ≤ 63 → (∀ z ∈ ns, PySem.Builtin.Int.intBits z ≤ 1048576) → ∃ o, m_law [.scr ns] = .ok (.bl true) o := fun ns hl hz => by
  obtain ⟨ρ', e, t, cs, rfl, _, hcs⟩ := landM_turns (S := .scr ns) (ms := [true, true, false, true, true, true, true]) (s := t2_law) (ds := upto 0 16) (ρ := [.fro (.scr ns), .own (.lst [.lst (ns.map D.int), .int 0, .int 0]), .no, .no, .no, .no, .no, .no, .no, .no])
    (fun d hd t cs ht hx => by
      obtain ⟨x3, r3, e3, h3⟩ := hx.t
      obtain ⟨x4, r4, e4, h4⟩ := h3.t
      obtain ⟨y5, r5, e5, h5⟩ := h4.f
      obtain ⟨x6, r6, e6, h6⟩ := h5.t
      obtain ⟨x7, r7, e7, h7⟩ := h6.t
      obtain ⟨x8, r8, e8, h8⟩ := h7.t
      obtain ⟨x9, r9, e9, h9⟩ := h8.t
      rw [e3, e4, e5, e6, e7, e8, e9, h9.z]
      exact turn_ok ht) ⟨_, _, rfl, ⟨ns, 0, 0, rfl⟩, by simp⟩
  refine ⟨[], ?_⟩
  have hr : rng1D [.int 16] = some (upto 0 16) := by simp [rng1D]
  have line3 : (3 : Nat) ≤ sizeLine := line_pos (by decide)
  have n0 : CK 1 [] := CV.nil
  have f1 : m_equal [.tup [.tup [.str "x", .int 0]], .tup []] = .ok (.bl true) [] := by
    have := op_equal x0_ck n0
    rw [show eqC [("x", 0)] [] = true from by decide +kernel] at this
    exact this
  have f2 : m_at_most [.tup [.tup [.str "x", .int 1]], .tup []] = .ok (.bl false) [] := by
    have := op_at_most x1_ck n0
    rw [show leC [("x", 1)] [] = false from by decide +kernel] at this
    exact this
  show runP 10 1 b_law _ = _
  unfold runP b_law l2_law sFor
  simp [gList, line1, line2, line3, hr, e, f1, f2, gIs, isD, D.truth]
end Lw

open PySem PySem.W PyProof.Rows in
set_option maxRecDepth 100000 in
set_option maxHeartbeats 0 in
theorem PySem.Challenge.cw_countersums_k04_whole_comparisons_and_ra_holds : PySem.Challenge.rw_countersums_k04_whole_comparisons_and_ra.Holds := by
  w_on; o_law; k_head; (case hw => w_witness2)
  refine Lw.walk (l := PySem.Challenge.rw_countersums_k04_whole_comparisons_and_ra) rfl rfl (by rfl) (fun w h Y => PySem.W.km_in_of Y) ?F Lw.plain
  case F =>
    intro w mg fa h KX G hmg
    refine' Lw.all_mk KX G hmg ?a0 ?l0 ?c0 ?k0 ?a1 ?l1 ?c1 ?k1 ?a2 ?l2 ?c2 ?k2 ?a3 ?l3 ?c3 ?k3 ?a4 ?l4 ?c4 ?k4 ?a5 ?l5 ?c5 ?k5 ?a6 ?l6 ?c6 ?k6 ?a7 ?l7 ?c7 ?k7 ?a8 ?l8 ?c8 ?k8 ?a9 ?l9 ?c9 ?k9 ?a10 ?l10 ?c10 ?k10 ?a11 ?l11 ?c11 ?k11 ?a12 ?l12 ?c12 ?k12 ?a13 ?l13 ?c13 ?k13 ?a14 ?l14 ?c14 ?k14 ?a15 ?l15 ?c15 ?k15 ?a16 ?l16 ?c16 ?k16 ?a17 ?l17 ?c17 ?k17 ?a18 ?l18 ?c18 ?k18 ?a19 ?l19 ?c19 ?k19 ?a20 ?l20 ?c20 ?k20 ?a21 ?l21 ?c21 ?k21 ?a22 ?l22 ?c22 ?k22 ?tb1 ?tb2 ?tb3 ?tb4 ?z0 ?z1 ?z2 ?z3 ?z4 ?z5 ?z6 ?z7 ?z8 ?z9 ?z10 ?z11 ?z12 ?y0
    (case a0 => k_is)
    (case l0 => k_is)
    (case c0 => k_is)
    (case k0 => k_is)
    (case a1 => k_is)
    (case l1 => k_is)
    (case c1 => k_is)
    (case k1 => k_is)
    (case a2 => k_is)
    (case l2 => k_is)
    (case c2 => k_is)
    (case k2 => k_is)
    (case a3 => k_is)
    (case l3 => k_is)
    (case c3 => k_is)
    (case k3 => k_is)
    (case a4 => k_is)
    (case l4 => k_is)
    (case c4 => k_is)
    (case k4 => k_is)
    (case a5 => k_is)
    (case l5 => k_is)
    (case c5 => k_is)
    (case k5 => k_is)
    (case a6 => k_is)
    (case l6 => k_is)
    (case c6 => k_is)
    (case k6 => k_is)
    (case a7 => k_is)
    (case l7 => k_is)
    (case c7 => k_is)
    (case k7 => k_is)
    (case a8 => k_is)
    (case l8 => k_is)
    (case c8 => k_is)
    (case k8 => k_is)
    (case a9 => k_is)
    (case l9 => k_is)
    (case c9 => k_is)
    (case k9 => k_is)
    (case a10 => k_is)
    (case l10 => k_is)
    (case c10 => k_is)
    (case k10 => k_is)
    (case a11 => k_is)
    (case l11 => k_is)
    (case c11 => k_is)
    (case k11 => k_is)
    (case a12 => k_is)
    (case l12 => k_is)
    (case c12 => k_is)
    (case k12 => k_is)
    (case a13 => k_is)
    (case l13 => k_is)
    (case c13 => k_is)
    (case k13 => k_is)
    (case a14 => k_is)
    (case l14 => k_is)
    (case c14 => k_is)
    (case k14 => k_is)
    (case a15 => k_is)
    (case l15 => k_is)
    (case c15 => k_is)
    (case k15 => k_is)
    (case a16 => k_is)
    (case l16 => k_is)
    (case c16 => k_is)
    (case k16 => k_is)
    (case a17 => k_is)
    (case l17 => k_is)
    (case c17 => k_is)
    (case k17 => k_is)
    (case a18 => k_is)
    (case l18 => k_is)
    (case c18 => k_is)
    (case k18 => k_is)
    (case a19 => k_is)
    (case l19 => k_is)
    (case c19 => k_is)
    (case k19 => k_is)
    (case a20 => k_is)
    (case l20 => k_is)
    (case c20 => k_is)
    (case k20 => k_is)
    (case a21 => k_is)
    (case l21 => k_is)
    (case c21 => k_is)
    (case k21 => k_is)
    (case a22 => k_is)
    (case l22 => k_is)
    (case c22 => k_is)
    (case k22 => k_is)
    (case tb1 => k_is)
    (case tb2 => rfl)
    (case tb3 => kernel_rfl)
    (case tb4 => kernel_rfl)
    (case z0 => k_is)
    (case z1 => k_is)
    (case z2 => k_is)
    (case z3 => k_is)
    (case z4 => k_is)
    (case z5 => k_is)
    (case z6 => k_is)
    (case z7 => k_is)
    (case z8 => k_is)
    (case z9 => k_is)
    (case z10 => k_is)
    (case z11 => k_is)
    (case z12 => k_is)
    (case y0 => k_is)

