import PyProof.Rows.All
import Wide.All
import OpenK.AllK
import Wide.FinOn
import HandS.ForMost
import HandS.ForExc
import HandS.Flow
import HandS.Style
import HandS.IsInst
import HandS.Wide
import HandS.TupAny
import HandS.EndBits
import HandS.Walk
import HandS.TupMul
import HandS.DictComp
import HandS.TupLe
import HandS.Deep
import HandS.More
import HandS.Lambda
import HandS.ExcCtx
import HandS.HotCalls
import HandS.EndTab
import KE.KeyNested
import HandS.NoneIn
import HandS.Strs
import HandS.ListItems
import HandS.RevTup
import KE.KDictPairs
import HandS.Star
import HandS.CallLocal
import HandS.Zip
import PyProof.DictUpdate
import PyProof.Rows.TupTab
import KE.GoesEnum
import KE.DataCmp
import PyProof.ExcBaseAll.ValueError
import HandS.ExcIs
import HandS.EndOwn
import KE.KNestM
import HandS.SetFor
import KE.KDictSum
import HandS.Codes
import PySem.Challenge.RW_countersums_k28_whole_wrong_texts
set_option Elab.async false
set_option linter.all false
set_option maxRecDepth 100000
set_option maxHeartbeats 2000000
/-! Plain data, what represents it in the abstract heap, and the relation of a plain environment to slots and heap. -/
namespace Dt
open PySem PySem.Spec PyProof.Rows L2

/-- plain data -/
inductive D where
  | non | bl (b : Bool) | int (i : Int) | str (s : Str)
  | tup (xs : List D) | lst (xs : List D) | dct (ks : List Key) (xs : List D) | scr (ns : List Int) | arg (xs : List D) | fn (nm : Str)
  /-- a dict with nested tuples as keys -/
  | nd (ks : List D) (xs : List D)
  /-- what lies at a, no more told of it -/
  | exn (a : Addr)
  deriving Inhabited

/-- the tuple at a, its object told: it has no dictionary of its own -/
def TupC (F : Hp) (a : Addr) (xs : List V) : Prop := ∃ o : Obj, o.dict = none ∧ F a = some (.frz o (.tup xs))
theorem TupC.sq {K : PySem.W.Frag} {F : Hp} {a : Addr} {xs : List V} (h : TupC F a xs) : SqT K F a xs := let ⟨o, _, e⟩ := h; .inl (.inr ⟨o, e⟩)
theorem TupC.new {F : Hp} {a : Addr} {xs : List V} {o : Obj} (d : o.dict = none) : TupC (upd F a (.frz o (.tup xs))) a xs := ⟨o, d, upd_same⟩
/-- where the def of that name lies -/
def fnA (K : PySem.W.Frag) (nm : Str) : Addr := match PySem.W.nsIn K mainGlobals nm with
  | some (some (.ref a)) => a
  | _ => 0
mutual
/-- the key that a datum is -/
def nk : D → Option NestedKey
  | .bl b => some (.num (if b = true then 1 else 0))
  | .int i => some (.num i)
  | .tup ds => (nks ds).map .tup
  | _ => none
def nks : List D → Option (List NestedKey)
  | [] => some []
  | d :: ds => (nk d).bind fun k => (nks ds).map fun ks => k :: ks
end
/-- a tuple that is a key -/
def nkey : D → Option NestedKey
  | .tup ds => match nk (.tup ds) with
    | some k => if k.depth ≤ 8 then some k else none
    | none => none
  | _ => none
/-- what stands at p is just this object -/
def AtO (p : Addr) (ob : Obj) : HO := .ext fun h => h.get? p = some ob
/-- the object ob at p is a dict of these rows: keys, where they lie, values -/
structure NdC (p : Addr) (ob : Obj) (xs : List (NestedKey × Addr × Value)) (ks : List D) (vs : List V) : Prop where
  ns : (p == sysModules) = false
  ex : ob.ExactDict
  en : ∃ es ep, ob.data = .dict es ep ∧ ∀ (P : Program) (w : World), es.toList = xs.map (entryOfKey (nestedKind P w))
  nod : (xs.map (·.1)).Nodup
  vals : Vals vs (xs.map fun x => x.2.2)
  keys : ks.map nkey = xs.map fun x => some x.1
/-- a dict that is data is locked for good: so it may be walked -/
def lk (o : Obj) : HO → HO
  | .dK kvs => .frz o (.dK kvs)
  | .ext φ => .frz o (.ext φ)
  | u => u
/-- what may be locked -/
def Lkb (u : HO) : Prop := (∃ xs, u = .lst xs) ∨ (∃ kvs, u = .dK kvs) ∨ ∃ φ, u = .ext φ
mutual
/-- v stands for the data in the frozen heap F -/
inductive Rp (K : PySem.W.Frag) (F : Hp) : V → D → Prop
  | non : Rp K F .non .non
  | bl (b : Bool) : Rp K F (.bl b) (.bl b)
  | int (i : Int) : Rp K F (.int i) (.int i)
  | str (s : Str) : Rp K F (.str s) (.str s)
  | tup {a : Addr} {xs : List V} {ds : List D} : TupC F a xs → Rps K F xs ds → Rp K F (.ref a) (.tup ds)
  | arg {a : Addr} {xs : List V} {ds : List D} : SqT K F a xs → Rps K F xs ds → Rp K F (.ref a) (.arg ds)
  | lst {a : Addr} {xs : List V} {ds : List D} : F a = some (.lst xs) → Rps K F xs ds → Rp K F (.ref a) (.lst ds)
  | dct {a : Addr} {o : Obj} {kvs : List (Key × V)} {ds : List D} : F a = some (.frz o (.dK kvs)) → Rps K F (kvs.map (·.2)) ds → Rp K F (.ref a) (.dct (kvs.map (·.1)) ds)
  | scr {a : Addr} {ns : List Int} : SqL K F a (ns.map V.int) → Rp K F (.ref a) (.scr ns)
  | fn (nm : Str) : Rp K F (.ref (fnA K nm)) (.fn nm)
  | exn (a : Addr) : Rp K F (.ref a) (.exn a)
  | nd {a : Addr} {o ob : Obj} {xs : List (NestedKey × Addr × Value)} {vs : List V} {ks ds : List D} : F a = some (.frz o (AtO a ob)) → NdC a ob xs ks vs → Rps K F (xs.map fun x => .ref x.2.1) ks → Rps K F vs ds → Rp K F (.ref a) (.nd ks ds)
inductive Rps (K : PySem.W.Frag) (F : Hp) : List V → List D → Prop
  | nil : Rps K F [] []
  | cons {v : V} {vs : List V} {d : D} {ds : List D} : Rp K F v d → Rps K F vs ds → Rps K F (v :: vs) (d :: ds)
end

def FLe (F F' : Hp) : Prop := ∀ a o, F a = some o → F' a = some o
theorem FLe.refl (F : Hp) : FLe F F := fun _ _ h => h
theorem FLe.trans {F G H : Hp} (a : FLe F G) (b : FLe G H) : FLe F H := fun c o h => b c o (a c o h)
theorem FLe.noneOf {F G : Hp} (h : FLe F G) {a : Addr} (n : G a = none) : F a = none := by
  cases e : F a with
  | none => rfl
  | some o => rw [h a o e] at n; cases n
theorem FLe.rd {F G : Hp} (h : FLe F G) {a : Addr} {u : HO} (r : Rd F a u) : Rd G a u := by
  rcases r with r | ⟨o, r⟩
  · exact .inl (h _ _ r)
  · exact .inr ⟨o, h _ _ r⟩
theorem FLe.tupC {F G : Hp} (h : FLe F G) {a : Addr} {xs : List V} (r : TupC F a xs) : TupC G a xs := let ⟨o, d, e⟩ := r; ⟨o, d, h _ _ e⟩
theorem FLe.sqT {K : PySem.W.Frag} {F G : Hp} (h : FLe F G) {a : Addr} {xs : List V} (r : SqT K F a xs) : SqT K G a xs := by
  rcases r with r | r
  · exact .inl (h.rd r)
  · exact .inr r
theorem FLe.sqL {K : PySem.W.Frag} {F G : Hp} (h : FLe F G) {a : Addr} {xs : List V} (r : SqL K F a xs) : SqL K G a xs := by
  rcases r with r | r
  · exact .inl (h.rd r)
  · exact .inr r
mutual
theorem Rp.mono {K : PySem.W.Frag} {F G : Hp} (h : FLe F G) : ∀ {v : V} {d : D}, Rp K F v d → Rp K G v d
  | _, _, .non => .non
  | _, _, .bl b => .bl b
  | _, _, .int b => .int b
  | _, _, .str b => .str b
  | _, _, .tup t r => .tup (h.tupC t) (Rps.mono h r)
  | _, _, .arg t r => .arg (h.sqT t) (Rps.mono h r)
  | _, _, .lst t r => .lst (h _ _ t) (Rps.mono h r)
  | _, _, .dct t r => .dct (h _ _ t) (Rps.mono h r)
  | _, _, .scr t => .scr (h.sqL t)
  | _, _, .fn nm => .fn nm
  | _, _, .exn a => .exn a
  | _, _, .nd t c r1 r2 => .nd (h _ _ t) c (Rps.mono h r1) (Rps.mono h r2)
theorem Rps.mono {K : PySem.W.Frag} {F G : Hp} (h : FLe F G) : ∀ {vs : List V} {ds : List D}, Rps K F vs ds → Rps K G vs ds
  | _, _, .nil => .nil
  | _, _, .cons a b => .cons (Rp.mono h a) (Rps.mono h b)
end
section
variable {K : PySem.W.Frag} {F : Hp}
theorem Rps.length : ∀ {vs : List V} {ds : List D}, Rps K F vs ds → vs.length = ds.length
  | _, _, .nil => rfl
  | _, _, .cons _ b => by rw [List.length_cons, List.length_cons, Rps.length b]
theorem Rps.get : ∀ {vs : List V} {ds : List D} {i : Nat} {d : D}, Rps K F vs ds → ds[i]? = some d → ∃ v, vs[i]? = some v ∧ Rp K F v d
  | _, _, _, _, .nil, e => by simp at e
  | _, _, 0, _, .cons a _, e => by simp at e; subst e; exact ⟨_, rfl, a⟩
  | _, _, i + 1, _, .cons _ b, e => by
    obtain ⟨v, h1, h2⟩ := Rps.get (i := i) b (by simpa using e)
    exact ⟨v, by simpa using h1, h2⟩
theorem Rps.get' : ∀ {vs : List V} {ds : List D} {i : Nat} {v : V}, Rps K F vs ds → vs[i]? = some v → ∃ d, ds[i]? = some d ∧ Rp K F v d
  | _, _, _, _, .nil, e => by simp at e
  | _, _, 0, _, .cons a _, e => by simp at e; subst e; exact ⟨_, rfl, a⟩
  | _, _, i + 1, _, .cons _ b, e => by
    obtain ⟨v, h1, h2⟩ := Rps.get' (i := i) b (by simpa using e)
    exact ⟨v, by simpa using h1, h2⟩
theorem Rps.append : ∀ {vs ws : List V} {ds es : List D}, Rps K F vs ds → Rps K F ws es → Rps K F (vs ++ ws) (ds ++ es)
  | _, _, _, _, .nil, s => s
  | _, _, _, _, .cons a b, s => .cons a (b.append s)
theorem Rps.take : ∀ {vs : List V} {ds : List D} (n : Nat), Rps K F vs ds → Rps K F (vs.take n) (ds.take n)
  | _, _, 0, _ => .nil
  | _, _, _ + 1, .nil => .nil
  | _, _, n + 1, .cons a b => .cons a (b.take n)
theorem Rps.drop : ∀ {vs : List V} {ds : List D} (n : Nat), Rps K F vs ds → Rps K F (vs.drop n) (ds.drop n)
  | _, _, 0, r => r
  | _, _, _ + 1, .nil => .nil
  | _, _, n + 1, .cons _ b => b.drop n
theorem Rps.set : ∀ {vs : List V} {ds : List D} (n : Nat) {v : V} {d : D}, Rps K F vs ds → Rp K F v d → Rps K F (vs.set n v) (ds.set n d)
  | _, _, _, _, _, .nil, _ => .nil
  | _, _, 0, _, _, .cons _ b, r => .cons r b
  | _, _, n + 1, _, _, .cons a b, r => .cons a (b.set n r)
theorem Rps.eraseIdx : ∀ {vs : List V} {ds : List D} (n : Nat), Rps K F vs ds → Rps K F (vs.eraseIdx n) (ds.eraseIdx n)
  | _, _, _, .nil => by simp only [List.eraseIdx_nil]; exact .nil
  | _, _, 0, .cons _ b => b
  | _, _, n + 1, .cons a b => .cons a (b.eraseIdx n)
theorem Rps.reverse {vs : List V} {ds : List D} (r : Rps K F vs ds) : Rps K F vs.reverse ds.reverse := by
  induction vs generalizing ds with
  | nil => cases r; exact .nil
  | cons v vs ih =>
    cases r with
    | cons a b => rw [List.reverse_cons, List.reverse_cons]; exact (ih b).append (.cons a .nil)
theorem Rps.rep {vs : List V} {ds : List D} (r : Rps K F vs ds) : ∀ n, Rps K F (List.replicate n vs).flatten (List.replicate n ds).flatten
  | 0 => .nil
  | n + 1 => by rw [List.replicate_succ, List.replicate_succ, List.flatten_cons, List.flatten_cons]; exact r.append (r.rep n)
end

/-- a variable: nothing is known; frozen data; a list or dict that is its own; the same where it is the caller's -/
inductive Cell where
  | no | fro (d : D) | own (d : D) | io (d : D)
abbrev Env := List Cell
def Cell.held : Cell → Option D
  | .own d => some d
  | .io d => some d
  | _ => none
def Cell.data : Cell → Option D
  | .fro d => some d
  | .own d => some d
  | .io d => some d
  | .no => none

/-- the object o holds the data, its parts in F -/
def OwnObj (K : PySem.W.Frag) (F : Hp) (p : Addr) (o : HO) : D → Prop
  | .lst ds => ∃ xs, o = .lst xs ∧ Rps K F xs ds
  | .dct ks ds => ∃ kvs, o = .dK kvs ∧ kvs.map (·.1) = ks ∧ Rps K F (kvs.map (·.2)) ds
  | .nd ks ds => ∃ ob xs vs, o = AtO p ob ∧ NdC p ob xs ks vs ∧ Rps K F (xs.map fun x => .ref x.2.1) ks ∧ Rps K F vs ds
  | _ => False
theorem OwnObj.mono {K : PySem.W.Frag} {F G : Hp} (h : FLe F G) {p : Addr} {o : HO} {d : D} (r : OwnObj K F p o d) : OwnObj K G p o d := by
  cases d with
  | lst ds => obtain ⟨xs, e, r⟩ := r; exact ⟨xs, e, r.mono h⟩
  | dct ks ds => obtain ⟨kvs, e, e2, r⟩ := r; exact ⟨kvs, e, e2, r.mono h⟩
  | nd ks ds => obtain ⟨ob, xs, vs, e, c, r1, r2⟩ := r; exact ⟨ob, xs, vs, e, c, r1.mono h, r2.mono h⟩
  | _ => exact r
theorem OwnObj.rp {K : PySem.W.Frag} {F : Hp} {p : Addr} {od : Obj} {o : HO} {d : D} (r : OwnObj K F p o d) (e : F p = some (lk od o)) : Rp K F (.ref p) d := by
  cases d with
  | lst ds => obtain ⟨xs, rfl, r⟩ := r; exact .lst e r
  | dct ks ds => obtain ⟨kvs, rfl, rfl, r⟩ := r; exact .dct e r
  | nd ks ds => obtain ⟨ob, xs, vs, rfl, c, r1, r2⟩ := r; exact .nd e c r1 r2
  | _ => exact r.elim
theorem OwnObj.lkb {K : PySem.W.Frag} {F : Hp} {p : Addr} {o : HO} {d : D} (r : OwnObj K F p o d) : Lkb o := by
  cases d with
  | lst ds => obtain ⟨xs, rfl, r⟩ := r; exact .inl ⟨_, rfl⟩
  | dct ks ds => obtain ⟨kvs, rfl, rfl, r⟩ := r; exact .inr (.inl ⟨_, rfl⟩)
  | nd ks ds => obtain ⟨ob, xs, vs, rfl, _⟩ := r; exact .inr (.inr ⟨_, rfl⟩)
  | _ => exact r.elim
theorem lk_lst {od : Obj} {xs : List V} : lk od (.lst xs) = .lst xs := rfl
/-- the object at p is the variable's own -/
structure OwnAt (K : PySem.W.Frag) (F R H : Hp) (p : Addr) (d : D) : Prop where
  nF : F p = none
  nR : R p = none
  at_ : ∃ o, H p = some o ∧ OwnObj K F p o d
def CellOk (K : PySem.W.Frag) (F R H : Hp) (v : Option V) : Cell → Prop
  | .no => True
  | .fro d => ∃ x, v = some x ∧ Rp K F x d
  | .own d => ∃ p, v = some (.ref p) ∧ OwnAt K F R H p d
  | .io d => ∃ p, v = some (.ref p) ∧ OwnAt K F R H p d

/-- the slots whose objects are the caller's; the tables of code objects, the name that their entries bear -/
structure Io (T : List (Addr × Str)) where
  l : List (Nat × Addr) := []
/-- no table is among these -/
def NoTb (F : Hp) : Prop := ∀ a ps, F a ≠ some (.tbl ps)
theorem NoTb.upd {F : Hp} (h : NoTb F) {p : Addr} {o : HO} (n : ∀ ps, o ≠ .tbl ps) : NoTb (L2.upd F p o) := fun a ps z => by
  by_cases e : a = p
  · subst e; rw [upd_same] at z; exact n ps (Option.some.inj z)
  · rw [upd_ne e] at z; exact h a ps z
theorem OwnObj.nt {K : PySem.W.Frag} {F : Hp} {p : Addr} {o : HO} {d : D} (r : OwnObj K F p o d) (od : Obj) : (∀ ps, o ≠ .tbl ps) ∧ ∀ ps, lk od o ≠ .tbl ps := by
  cases d with
  | lst ds => obtain ⟨xs, rfl, r⟩ := r; exact ⟨(fun ps z => nomatch z), fun ps z => nomatch z⟩
  | dct ks ds => obtain ⟨kvs, rfl, _, r⟩ := r; exact ⟨(fun ps z => nomatch z), fun ps z => nomatch z⟩
  | nd ks ds => obtain ⟨ob, xs, vs, rfl, _⟩ := r; exact ⟨(fun ps z => nomatch z), fun ps z => nomatch z⟩
  | _ => exact r.elim
theorem heap_size : ∀ n : Nat, ∃ h : Heap, h.objs.size = n
  | 0 => ⟨{}, rfl⟩
  | n + 1 => let ⟨h, e⟩ := heap_size n; ⟨h.push { cls := .none, data := .plain }, by rw [Heap.size_push, e]⟩
theorem atO_ne {p : Addr} {ob : Obj} {q : Str} (nf : ∀ vs, ob.data ≠ .fields vs) : AtO p ob ≠ LamX.CodeO p q := fun z => by
  unfold AtO LamX.CodeO at z
  obtain ⟨h, e⟩ := heap_size p
  have g : (h.push { cls := .none, data := .fields #[.none, .str q 0] }).get? p = some { cls := .none, data := .fields #[.none, .str q 0] } := by
    rw [← e]; exact Heap.get?_push_size _ rfl
  have k := congrFun (HO.ext.inj z) (h.push { cls := .none, data := .fields #[.none, .str q 0] })
  have y := (iff_of_eq k).mpr ⟨_, _, 0, g, rfl, rfl⟩
  rw [g] at y
  cases y
  exact nf _ rfl
/-- neither a table nor a code object that tables tell -/
def NoX (R : Hp) : Prop := NoTb R ∧ ∀ a q, R a ≠ some (LamX.CodeO a q)
theorem NoX.upd {R : Hp} (h : NoX R) {p : Addr} {o : HO} (n : ∀ ps, o ≠ .tbl ps) (n2 : ∀ q, o ≠ LamX.CodeO p q) : NoX (L2.upd R p o) := ⟨h.1.upd n, fun a φ z => by
  by_cases e : a = p
  · subst e; rw [upd_same] at z; exact n2 φ (Option.some.inj z)
  · rw [upd_ne e] at z; exact h.2 a φ z⟩
theorem OwnObj.nx {K : PySem.W.Frag} {F : Hp} {p : Addr} {o : HO} {d : D} (r : OwnObj K F p o d) (q : Str) : o ≠ LamX.CodeO p q := by
  cases d with
  | lst ds => obtain ⟨xs, rfl, r⟩ := r; unfold LamX.CodeO; exact fun z => nomatch z
  | dct ks ds => obtain ⟨kvs, rfl, _, r⟩ := r; unfold LamX.CodeO; exact fun z => nomatch z
  | nd ks ds => obtain ⟨ob, xs, vs, rfl, c, _⟩ := r; exact atO_ne fun vs z => by obtain ⟨es, ep, e, _⟩ := c.en; rw [e] at z; cases z
  | _ => exact r.elim
/-- a table: it is nobody's; the code objects that it tells are known for good -/
def TabOk (F R H : Hp) (t : Addr × Str) : Prop := F t.1 = none ∧ R t.1 = none ∧ NoX R ∧ ∃ ps : Array Value, H t.1 = some (.tbl ps) ∧ TriplesOk ps.toList ∧ ∀ (pos : Pos) (cv : Value), codeAmong pos ps.toList = some cv → ∃ c, cv = .ref c ∧ F c = some (LamX.CodeO c t.2)
theorem TabOk.mv {F R H F' R' H' : Hp} {t : Addr × Str} (h : TabOk F R H t) (hF : F' t.1 = none) (hR : R' t.1 = none) (hH : ∀ ps, H t.1 = some (.tbl ps) → H' t.1 = some (.tbl ps)) (le : FLe F F') (nR : NoX R') : TabOk F' R' H' t := by
  obtain ⟨_, _, _, ps, e, tr, k⟩ := h
  exact ⟨hF, hR, nR, ps, hH ps e, tr, fun pos cv z => let ⟨c, e1, e2⟩ := k pos cv z; ⟨c, e1, le _ _ e2⟩⟩
theorem own_ne {K : PySem.W.Frag} {F R H : Hp} {p P : Addr} {d : D} {ps : Array Value} (w : OwnAt K F R H p d) (e : H P = some (.tbl ps)) : P ≠ p := fun z => by
  subst z
  obtain ⟨o, e1, h⟩ := w.at_
  rw [e] at e1
  cases e1
  cases d with
  | lst ds => obtain ⟨_, z, _⟩ := h; cases z
  | dct ks ds => obtain ⟨_, z, _, _⟩ := h; cases z
  | nd ks ds => obtain ⟨_, _, _, z, _⟩ := h; cases z
  | _ => exact h
theorem TabOk.tbl {F R H : Hp} {t : Addr × Str} (h : TabOk F R H t) : ∃ ps, H t.1 = some (.tbl ps) := let ⟨_, _, _, ps, e, _⟩ := h; ⟨ps, e⟩
theorem TabOk.nR {F R H : Hp} {t : Addr × Str} (h : TabOk F R H t) : NoX R := h.2.2.1
/-- ρ tells of the slots σ and the heap H. F: what is frozen; R: what others keep; io: the slots whose objects are the caller's -/
structure Rel {T : List (Addr × Str)} (K : PySem.W.Frag) (io : Io T) (R : Hp) (ρ : Env) (F : Hp) (σ : L2.St) (H : Hp) : Prop where
  fH : FLe F H
  rH : FLe R H
  dj : ∀ a o, F a = some o → R a = none
  len : ρ.length = σ.length
  cell : ∀ (i : Nat) (c : Cell) (v : Option V), ρ[i]? = some c → σ[i]? = some v → CellOk K F R H v c
  inj : ∀ (i j : Nat) (ci cj : Cell) (di dj : D) (p : Addr), ρ[i]? = some ci → ρ[j]? = some cj → ci.held = some di → cj.held = some dj → σ[i]? = some (some (.ref p)) → σ[j]? = some (some (.ref p)) → i = j
  ios : ∀ ip ∈ io.l, (∃ d, ρ[ip.1]? = some (.io d)) ∧ σ[ip.1]? = some (some (.ref ip.2))
  ioc : ∀ (i : Nat) (d : D), ρ[i]? = some (.io d) → ∃ p, (i, p) ∈ io.l
  tab : ∀ t ∈ T, TabOk F R H t
  nt : NoTb F

section
variable {T : List (Addr × Str)} {K : PySem.W.Frag} {io : Io T} {R : Hp} {ρ : Env} {F F' : Hp} {σ : L2.St} {H H' : Hp}
theorem Rel.slot (r : Rel K io R ρ F σ H) {i : Nat} {c : Cell} (e : ρ[i]? = some c) : ∃ v, σ[i]? = some v ∧ CellOk K F R H v c := by
  have h := (List.getElem?_eq_some_iff.mp e).1
  have h2 : i < σ.length := by rw [← r.len]; exact h
  exact ⟨σ[i], by simp [h2], r.cell i c _ e (by simp [h2])⟩
theorem Rel.heldAt (r : Rel K io R ρ F σ H) {i : Nat} {c : Cell} {d : D} (e : ρ[i]? = some c) (h : c.held = some d) : ∃ p, σ[i]? = some (some (.ref p)) ∧ OwnAt K F R H p d := by
  obtain ⟨v, e1, q⟩ := r.slot e
  cases c with
  | no => cases h
  | fro _ => cases h
  | own d' => cases h; obtain ⟨p, rfl, q⟩ := q; exact ⟨p, e1, q⟩
  | io d' => cases h; obtain ⟨p, rfl, q⟩ := q; exact ⟨p, e1, q⟩
/-- the heap has more, what is frozen has more: none of it was there -/
theorem Rel.grow (r : Rel K io R ρ F σ H) (hF : FLe F F') (hH : FLe H H') (hFH : FLe F' H') (new : ∀ a o, F' a = some o → F a = some o ∨ H a = none) (nt : NoTb F') : Rel K io R ρ F' σ H' := by
  have own : ∀ {p d}, OwnAt K F R H p d → OwnAt K F' R H' p d := fun {p d} q => by
    obtain ⟨o, e, q3⟩ := q.at_
    refine ⟨?_, q.nR, o, hH _ _ e, q3.mono hF⟩
    cases e' : F' p with
    | none => rfl
    | some o' =>
      rcases new p o' e' with z | z
      · rw [q.nF] at z; cases z
      · rw [e] at z; cases z
  refine ⟨hFH, r.rH.trans hH, fun a o e => ?_, r.len, fun i c v e1 e2 => ?_, r.inj, r.ios, r.ioc, (fun t ht => ?_), nt⟩
  · rcases new a o e with z | z
    · exact r.dj a o z
    · exact r.rH.noneOf z
  · have q := r.cell i c v e1 e2
    cases c with
    | no => trivial
    | fro d => obtain ⟨x, e, q⟩ := q; exact ⟨x, e, q.mono hF⟩
    | own d => obtain ⟨p, e, q⟩ := q; exact ⟨p, e, own q⟩
    | io d => obtain ⟨p, e, q⟩ := q; exact ⟨p, e, own q⟩
  · have q := r.tab t ht
    obtain ⟨ps, ep⟩ := q.tbl
    refine q.mv ?_ q.2.1 (fun ps e => hH _ _ e) hF q.nR
    cases e' : F' t.1 with
    | none => rfl
    | some o' =>
      rcases new _ _ e' with z | z
      · rw [q.1] at z; cases z
      · rw [ep] at z; cases z
/-- a new frozen object -/
theorem Rel.new (r : Rel K io R ρ F σ H) {p : Addr} (n : H p = none) (o : HO) (no : ∀ ps, o ≠ .tbl ps := by intro ps z; cases z) : Rel K io R ρ (upd F p o) σ (upd H p o) := by
  refine r.grow (fun a u e => ?_) (fun a u e => ?_) (fun a u e => ?_) (fun a u e => ?_) (r.nt.upd no)
  · rw [upd_ne (ne_of_none (r.fH a u e) n)]; exact e
  · rw [upd_ne (ne_of_none e n)]; exact e
  · by_cases h : a = p
    · subst h; rw [upd_same] at e ⊢; exact e
    · rw [upd_ne h] at e ⊢; exact r.fH a u e
  · by_cases h : a = p
    · subst h; exact .inr n
    · rw [upd_ne h] at e; exact .inl e
theorem FLe.upd {F : Hp} {p : Addr} (o : HO) (n : F p = none) : FLe F (upd F p o) := fun a u e => by
  rw [upd_ne (ne_of_none e n)]; exact e
/-- a new object that nobody holds -/
theorem Rel.newH (r : Rel K io R ρ F σ H) {p : Addr} (n : H p = none) (o : HO) : Rel K io R ρ F σ (L2.upd H p o) :=
  r.grow (FLe.refl F) (FLe.upd o n) (r.fH.trans (FLe.upd o n)) (fun a u e => .inl e) r.nt
/-- a variable takes frozen data -/
theorem Rel.setFro (r : Rel K io R ρ F σ H) {i : Nat} {v : V} {d : D} (h : Rp K F v d) (hi : ∀ e, ρ[i]? ≠ some (Cell.io e)) : Rel K io R (ρ.set i (.fro d)) F (σ.set i (some v)) H := by
  refine ⟨r.fH, r.rH, r.dj, by rw [List.length_set, List.length_set]; exact r.len, fun j c w e1 e2 => ?_, fun j k cj ck dj dk p h1 h2 h3 h4 h5 h6 => ?_, fun ip hip => ?_, (fun j d' e => ?_), r.tab, r.nt⟩
  · rw [List.getElem?_set] at e1 e2
    by_cases hj : i = j
    · rw [if_pos hj] at e1 e2
      split at e1
      · cases e1
        split at e2
        · cases e2; exact ⟨v, rfl, h⟩
        · cases e2
      · cases e1
    · rw [if_neg hj] at e1 e2; exact r.cell j c w e1 e2
  · have ne : ∀ {j : Nat} {cj : Cell} {dj : D}, (ρ.set i (.fro d))[j]? = some cj → cj.held = some dj → i ≠ j ∧ ρ[j]? = some cj := fun {j cj dj} e1 e2 => by
      rw [List.getElem?_set] at e1
      by_cases hj : i = j
      · rw [if_pos hj] at e1
        split at e1
        · cases e1; cases e2
        · cases e1
      · rw [if_neg hj] at e1; exact ⟨hj, e1⟩
    obtain ⟨n1, g1⟩ := ne h1 h3
    obtain ⟨n2, g2⟩ := ne h2 h4
    rw [List.getElem?_set_ne n1] at h5
    rw [List.getElem?_set_ne n2] at h6
    exact r.inj j k cj ck dj dk p g1 g2 h3 h4 h5 h6
  · obtain ⟨⟨d', e1⟩, e2⟩ := r.ios ip hip
    have hn : i ≠ ip.1 := fun e => by subst e; exact hi d' e1
    exact ⟨⟨d', by rw [List.getElem?_set_ne hn]; exact e1⟩, by rw [List.getElem?_set_ne hn]; exact e2⟩
  · rw [List.getElem?_set] at e
    split at e
    · split at e <;> cases e
    · exact r.ioc j d' e
/-- nothing more is known of a variable -/
theorem Rel.forget (r : Rel K io R ρ F σ H) {i : Nat} (o : Option V) (hi : ∀ e, ρ[i]? ≠ some (Cell.io e)) : Rel K io R (ρ.set i .no) F (σ.set i o) H := by
  refine ⟨r.fH, r.rH, r.dj, by rw [List.length_set, List.length_set]; exact r.len, fun j c w e1 e2 => ?_, fun j k cj ck dj dk p h1 h2 h3 h4 h5 h6 => ?_, fun ip hip => ?_, (fun j d' e => ?_), r.tab, r.nt⟩
  · rw [List.getElem?_set] at e1 e2
    by_cases hj : i = j
    · rw [if_pos hj] at e1
      split at e1
      · cases e1; trivial
      · cases e1
    · rw [if_neg hj] at e1 e2; exact r.cell j c w e1 e2
  · have ne : ∀ {j : Nat} {cj : Cell} {dj : D}, (ρ.set i .no)[j]? = some cj → cj.held = some dj → i ≠ j ∧ ρ[j]? = some cj := fun {j cj dj} e1 e2 => by
      rw [List.getElem?_set] at e1
      by_cases hj : i = j
      · rw [if_pos hj] at e1
        split at e1
        · cases e1; cases e2
        · cases e1
      · rw [if_neg hj] at e1; exact ⟨hj, e1⟩
    obtain ⟨n1, g1⟩ := ne h1 h3
    obtain ⟨n2, g2⟩ := ne h2 h4
    rw [List.getElem?_set_ne n1] at h5
    rw [List.getElem?_set_ne n2] at h6
    exact r.inj j k cj ck dj dk p g1 g2 h3 h4 h5 h6
  · obtain ⟨⟨d', e1⟩, e2⟩ := r.ios ip hip
    have hn : i ≠ ip.1 := fun e => by subst e; exact hi d' e1
    exact ⟨⟨d', by rw [List.getElem?_set_ne hn]; exact e1⟩, by rw [List.getElem?_set_ne hn]; exact e2⟩
  · rw [List.getElem?_set] at e
    split at e
    · split at e <;> cases e
    · exact r.ioc j d' e
/-- no variable holds p -/
def Loose (ρ : Env) (σ : L2.St) (p : Addr) : Prop := ∀ (i : Nat) (c : Cell) (d : D), ρ[i]? = some c → c.held = some d → σ[i]? ≠ some (some (.ref p))
theorem Rel.loose (r : Rel K io R ρ F σ H) {p : Addr} (n : H p = none) : Loose ρ σ p := fun i c d e1 e2 e3 => by
  obtain ⟨q, e4, w⟩ := r.heldAt e1 e2
  rw [e3] at e4; cases e4
  obtain ⟨o, e, _⟩ := w.at_
  rw [n] at e; cases e
/-- a variable takes an object that nobody holds -/
theorem Rel.setOwn (r : Rel K io R ρ F σ H) {i : Nat} {p : Addr} {d : D} (h : OwnAt K F R H p d) (lo : Loose ρ σ p) (hi : ∀ e, ρ[i]? ≠ some (Cell.io e)) : Rel K io R (ρ.set i (.own d)) F (σ.set i (some (.ref p))) H := by
  refine ⟨r.fH, r.rH, r.dj, by rw [List.length_set, List.length_set]; exact r.len, fun j c w e1 e2 => ?_, fun j k cj ck dj dk q h1 h2 h3 h4 h5 h6 => ?_, fun ip hip => ?_, (fun j d' e => ?_), r.tab, r.nt⟩
  · rw [List.getElem?_set] at e1 e2
    by_cases hj : i = j
    · rw [if_pos hj] at e1 e2
      split at e1
      · cases e1
        split at e2
        · cases e2; exact ⟨p, rfl, h⟩
        · cases e2
      · cases e1
    · rw [if_neg hj] at e1 e2; exact r.cell j c w e1 e2
  · rw [List.getElem?_set] at h1 h2 h5 h6
    by_cases hj : i = j
    · by_cases hk : i = k
      · exact hj.symm.trans hk
      · rw [if_neg hk] at h2 h6
        rw [if_pos hj] at h5
        split at h5
        · have z : V.ref p = V.ref q := Option.some.inj (Option.some.inj h5)
          cases z
          exact absurd h6 (lo k ck dk h2 h4)
        · cases h5
    · rw [if_neg hj] at h1 h5
      by_cases hk : i = k
      · rw [if_pos hk] at h6
        split at h6
        · have z : V.ref p = V.ref q := Option.some.inj (Option.some.inj h6)
          cases z
          exact absurd h5 (lo j cj dj h1 h3)
        · cases h6
      · rw [if_neg hk] at h2 h6
        exact r.inj j k cj ck dj dk q h1 h2 h3 h4 h5 h6
  · obtain ⟨⟨d', e1⟩, e2⟩ := r.ios ip hip
    have hn : i ≠ ip.1 := fun e => by subst e; exact hi d' e1
    exact ⟨⟨d', by rw [List.getElem?_set_ne hn]; exact e1⟩, by rw [List.getElem?_set_ne hn]; exact e2⟩
  · rw [List.getElem?_set] at e
    split at e
    · split at e <;> cases e
    · exact r.ioc j d' e
/-- the object of a variable is changed -/
def Cell.put (c : Cell) (d : D) : Cell := match c with
  | .own _ => .own d
  | .io _ => .io d
  | c => c
theorem Rel.write (r : Rel K io R ρ F σ H) {i : Nat} {c : Cell} {d0 d : D} {p : Addr} {o : HO} (hc : ρ[i]? = some c) (hh : c.held = some d0) (hp : σ[i]? = some (some (.ref p))) (ho : OwnObj K F p o d) :
    Rel K io R (ρ.set i (c.put d)) F σ (L2.upd H p o) := by
  obtain ⟨p', e1, w⟩ := r.heldAt hc hh
  rw [hp] at e1; cases e1
  have hil : i < ρ.length := (List.getElem?_eq_some_iff.mp hc).1
  have nF : ∀ a u, F a = some u → a ≠ p := fun a u e z => by subst z; rw [w.nF] at e; cases e
  have nR : ∀ a u, R a = some u → a ≠ p := fun a u e z => by subst z; rw [w.nR] at e; cases e
  have hp2 : (c.put d).held = some d := by cases c <;> first | rfl | cases hh
  refine ⟨fun a u e => by rw [upd_ne (nF a u e)]; exact r.fH a u e, fun a u e => by rw [upd_ne (nR a u e)]; exact r.rH a u e, r.dj, by rw [List.length_set]; exact r.len, fun j cj v e1 e2 => ?_, fun j k cj ck dj dk q h1 h2 h3 h4 h5 h6 => ?_, fun ip hip => ?_, fun j d' e => ?_, fun t ht => let q := r.tab t ht; q.mv q.1 q.2.1 (fun ps e => by rw [upd_ne (own_ne w e)]; exact e) (FLe.refl F) q.nR, r.nt⟩
  · by_cases hj : i = j
    · subst hj
      rw [List.getElem?_set_self hil] at e1
      cases e1
      rw [hp] at e2; cases e2
      have own : OwnAt K F R (L2.upd H p o) p d := ⟨w.nF, w.nR, o, upd_same, ho⟩
      cases c with
      | no => cases hh
      | fro _ => cases hh
      | own _ => exact ⟨p, rfl, own⟩
      | io _ => exact ⟨p, rfl, own⟩
    · rw [List.getElem?_set_ne hj] at e1
      have q := r.cell j cj v e1 e2
      have keep : ∀ {dj p'}, cj.held = some dj → v = some (.ref p') → OwnAt K F R H p' dj → OwnAt K F R (L2.upd H p o) p' dj := fun {dj p'} h3 h4 q => by
        obtain ⟨o', e, q3⟩ := q.at_
        refine ⟨q.nF, q.nR, o', ?_, q3⟩
        rw [upd_ne]
        · exact e
        · intro z
          subst z
          rw [h4] at e2
          exact hj (r.inj i j c cj d0 dj p' hc e1 hh h3 hp e2)
      cases cj with
      | no => trivial
      | fro _ => exact q
      | own dj => obtain ⟨p', e, q⟩ := q; exact ⟨p', e, keep rfl e q⟩
      | io dj => obtain ⟨p', e, q⟩ := q; exact ⟨p', e, keep rfl e q⟩
  · have old : ∀ {j : Nat} {cj : Cell} {dj : D}, (ρ.set i (c.put d))[j]? = some cj → cj.held = some dj → ∃ cj' dj', ρ[j]? = some cj' ∧ cj'.held = some dj' := fun {j cj dj} e1 e2 => by
      by_cases hj : i = j
      · subst hj; exact ⟨c, d0, hc, hh⟩
      · rw [List.getElem?_set_ne hj] at e1; exact ⟨cj, dj, e1, e2⟩
    obtain ⟨_, _, g1, g2⟩ := old h1 h3
    obtain ⟨_, _, g3, g4⟩ := old h2 h4
    exact r.inj j k _ _ _ _ q g1 g3 g2 g4 h5 h6
  · obtain ⟨⟨d', e1⟩, e2⟩ := r.ios ip hip
    refine ⟨?_, e2⟩
    by_cases hj : i = ip.1
    · subst hj
      rw [hc] at e1; cases e1
      exact ⟨d, by rw [List.getElem?_set_self hil]; rfl⟩
    · exact ⟨d', by rw [List.getElem?_set_ne hj]; exact e1⟩
  · by_cases hj : i = j
    · subst hj
      rw [List.getElem?_set_self hil] at e
      cases c with
      | no => cases hh
      | fro _ => cases hh
      | own _ => cases e
      | io d'' => exact r.ioc i d'' hc
    · rw [List.getElem?_set_ne hj] at e; exact r.ioc j d' e
/-- a variable's own object is frozen -/
theorem Rel.freeze (r : Rel K io R ρ F σ H) {i : Nat} {d : D} {p : Addr} {o : HO} (hc : ρ[i]? = some (.own d)) (hp : σ[i]? = some (some (.ref p))) (ho : H p = some o) (hr : OwnObj K F p o d) (od : Obj) :
    FLe F (L2.upd F p (lk od o)) ∧ Rel K io R (ρ.set i (.fro d)) (L2.upd F p (lk od o)) σ (L2.upd H p (lk od o)) ∧ Rp K (L2.upd F p (lk od o)) (.ref p) d := by
  obtain ⟨p', e1, w⟩ := r.heldAt hc rfl
  rw [hp] at e1; cases e1
  have hil : i < ρ.length := (List.getElem?_eq_some_iff.mp hc).1
  have le : FLe F (L2.upd F p (lk od o)) := FLe.upd _ w.nF
  have rp : Rp K (L2.upd F p (lk od o)) (.ref p) d := (hr.mono le).rp upd_same
  have nR : ∀ a u, R a = some u → a ≠ p := fun a u e z => by subst z; rw [w.nR] at e; cases e
  refine ⟨le, ⟨fun a u e => ?_, fun a u e => by rw [upd_ne (nR a u e)]; exact r.rH a u e, fun a u e => ?_, by rw [List.length_set]; exact r.len, fun j cj v e1 e2 => ?_, fun j k cj ck dj dk q h1 h2 h3 h4 h5 h6 => ?_, fun ip hip => ?_, fun j d' e => ?_, fun t ht => let q := r.tab t ht; let ⟨ps, ep⟩ := q.tbl; q.mv (by rw [upd_ne (own_ne w ep)]; exact q.1) q.2.1 (fun ps e => by rw [upd_ne (own_ne w e)]; exact e) le q.nR, r.nt.upd (hr.nt od).2⟩, rp⟩
  · by_cases h : a = p
    · subst h; rw [upd_same] at e; cases e; exact upd_same
    · rw [upd_ne h] at e; rw [upd_ne h]; exact r.fH a u e
  · by_cases h : a = p
    · subst h; exact w.nR
    · rw [upd_ne h] at e; exact r.dj a u e
  · by_cases hj : i = j
    · subst hj
      rw [List.getElem?_set_self hil] at e1
      cases e1
      rw [hp] at e2; cases e2
      exact ⟨_, rfl, rp⟩
    · rw [List.getElem?_set_ne hj] at e1
      have q := r.cell j cj v e1 e2
      have keep : ∀ {dj p'}, cj.held = some dj → v = some (.ref p') → OwnAt K F R H p' dj → OwnAt K (L2.upd F p (lk od o)) R (L2.upd H p (lk od o)) p' dj := fun {dj p'} h3 h4 q => by
        obtain ⟨o', e, q3⟩ := q.at_
        have ne : p' ≠ p := by
          intro z
          subst z
          rw [h4] at e2
          exact hj (r.inj i j _ cj d dj p' hc e1 rfl h3 hp e2)
        exact ⟨by rw [upd_ne ne]; exact q.nF, q.nR, o', by rw [upd_ne ne]; exact e, q3.mono le⟩
      cases cj with
      | no => trivial
      | fro _ => obtain ⟨x, e, q⟩ := q; exact ⟨x, e, q.mono le⟩
      | own dj => obtain ⟨p', e, q⟩ := q; exact ⟨p', e, keep rfl e q⟩
      | io dj => obtain ⟨p', e, q⟩ := q; exact ⟨p', e, keep rfl e q⟩
  · have old : ∀ {j : Nat} {cj : Cell} {dj : D}, (ρ.set i (.fro d))[j]? = some cj → cj.held = some dj → ρ[j]? = some cj := fun {j cj dj} e1 e2 => by
      by_cases hj : i = j
      · subst hj
        rw [List.getElem?_set_self hil] at e1
        cases e1; cases e2
      · rw [List.getElem?_set_ne hj] at e1; exact e1
    exact r.inj j k cj ck dj dk q (old h1 h3) (old h2 h4) h3 h4 h5 h6
  · obtain ⟨⟨d', e1⟩, e2⟩ := r.ios ip hip
    have hn : i ≠ ip.1 := fun e => by subst e; rw [hc] at e1; cases e1
    exact ⟨⟨d', by rw [List.getElem?_set_ne hn]; exact e1⟩, e2⟩
  · by_cases hj : i = j
    · subst hj
      rw [List.getElem?_set_self hil] at e
      cases e
    · rw [List.getElem?_set_ne hj] at e; exact r.ioc j d' e
end
end Dt

set_option Elab.async false
set_option linter.all false
set_option maxRecDepth 100000
set_option maxHeartbeats 2000000
/-! What code computes on plain data (the semantic side), and what it means that a piece of syntax computes it (the judgements). -/
namespace Dt
open PySem PySem.Spec PyProof.Rows L2

/-- an exception: the name of its class, what it bears -/
structure Exn where
  cls : String
  arg : D := .non
/-- a value with the environment behind it; an exception; anything that is not told -/
inductive R (α : Type) where
  | ok (a : α) (ρ : Env) | exc (x : Exn) (ρ : Env) | stuck
def R.bind {α β : Type} (r : R α) (f : α → Env → R β) : R β := match r with
  | .ok a ρ => f a ρ
  | .exc x ρ => .exc x ρ
  | .stuck => .stuck
@[simp] theorem R.bind_ok {α β : Type} {a : α} {ρ : Env} {f : α → Env → R β} : (R.ok a ρ).bind f = f a ρ := rfl
@[simp] theorem R.bind_exc {α β : Type} {x : Exn} {ρ : Env} {f : α → Env → R β} : (R.exc x ρ).bind f = .exc x ρ := rfl
@[simp] theorem R.bind_stuck {α β : Type} {f : α → Env → R β} : (R.stuck : R α).bind f = .stuck := rfl
/-- a def's end: its value and what it left in the lists that it was lent -/
inductive FR where
  | ok (d : D) (outs : List D) | exc (x : Exn) | stuck

abbrev SE := Env → R D
abbrev ST := Env → R Bool
abbrev SA := Env → R (List D)
inductive Fl where
  | nx | rt (d : D) | bk | ct
abbrev SS := Env → R Fl
abbrev SG := D → Env → R Unit
/-- an operand that is only looked at: a value, or a variable -/
inductive Opd where
  | val (d : D) | loc (i : Nat)
def Opd.get (ρ : Env) : Opd → Option D
  | .val d => some d
  | .loc i => (ρ[i]?).bind Cell.data
abbrev SO := Env → R Opd
abbrev SB := Env → R (List Opd)

/-- where the exception classes stand; the tables of code objects that may be written, the name that their entries bear -/
structure Exx where
  at_ : String → Addr
  tabs : List (Addr × Str)
/-- the context of a law: the written part, the above -/
structure Gx where
  K : PySem.W.Frag
  ex : Exx
def XR (G : Gx) (F : Hp) (x : Exn) (cls : Value) (dd : Option Addr) (H : Hp) : Prop :=
  cls = .ref (G.ex.at_ x.cls) ∧ match x.arg with
    | .non => dd = none
    | d => ∃ p v, dd = some p ∧ F p = none ∧ H p = some (.xd [("most", v)]) ∧ Rp G.K F v d

def XPost {T : List (Addr × Str)} (G : Gx) (W : WX) (io : Io T) (Rv : Hp) (F : Hp) (ρ : Env) (x : Exn) : Prop :=
  ∀ cls dd σ' H' F', FLe F F' → Rel G.K io Rv ρ F' σ' H' → XR G F' x cls dd H' → W cls dd σ' H'
def EPost {T : List (Addr × Str)} (G : Gx) (io : Io T) (Rv : Hp) (F : Hp) (σ : L2.St) (ρ : Env) (d : D) (Q : VK) : Prop :=
  ∀ v H' F', FLe F F' → Rel G.K io Rv ρ F' σ H' → Rp G.K F' v d → Q v H'
def OpdOk (K : PySem.W.Frag) (F : Hp) (σ : L2.St) (v : V) : Opd → Prop
  | .val d => Rp K F v d
  | .loc i => σ[i]? = some (some v)
inductive OpdsOk (K : PySem.W.Frag) (F : Hp) (σ : L2.St) : List V → List Opd → Prop
  | nil : OpdsOk K F σ [] []
  | cons {v : V} {vs : List V} {o : Opd} {os : List Opd} : OpdOk K F σ v o → OpdsOk K F σ vs os → OpdsOk K F σ (v :: vs) (o :: os)
theorem OpdOk.mono {K : PySem.W.Frag} {F G : Hp} (h : FLe F G) {σ : L2.St} {v : V} {o : Opd} (r : OpdOk K F σ v o) : OpdOk K G σ v o := by
  cases o with
  | val d => exact Rp.mono h r
  | loc i => exact r

def tE (G : Gx) (W : WX) (s : SE) : TE := fun σ H Q => ∃ ρ F Rv, ∃ io : Io G.ex.tabs, Rel G.K io Rv ρ F σ H ∧ match s ρ with
  | .ok d ρ' => EPost G io Rv F σ ρ' d Q
  | .exc x ρ' => XPost G W io Rv F ρ' x
  | .stuck => False
def tT (G : Gx) (W : WX) (s : ST) : TT := fun σ H Q => ∃ ρ F Rv, ∃ io : Io G.ex.tabs, Rel G.K io Rv ρ F σ H ∧ match s ρ with
  | .ok b ρ' => ∀ H' F', FLe F F' → Rel G.K io Rv ρ' F' σ H' → Q b H'
  | .exc x ρ' => XPost G W io Rv F ρ' x
  | .stuck => False
def tA (G : Gx) (W : WX) (s : SA) : TA := fun σ H Q => ∃ ρ F Rv, ∃ io : Io G.ex.tabs, Rel G.K io Rv ρ F σ H ∧ match s ρ with
  | .ok ds ρ' => ∀ vs H' F', FLe F F' → Rel G.K io Rv ρ' F' σ H' → Rps G.K F' vs ds → Q vs H'
  | .exc x ρ' => XPost G W io Rv F ρ' x
  | .stuck => False
def tO (G : Gx) (W : WX) (s : SO) : TE := fun σ H Q => ∃ ρ F Rv, ∃ io : Io G.ex.tabs, Rel G.K io Rv ρ F σ H ∧ match s ρ with
  | .ok o ρ' => ∀ v H' F', FLe F F' → Rel G.K io Rv ρ' F' σ H' → OpdOk G.K F' σ v o → Q v H'
  | .exc x ρ' => XPost G W io Rv F ρ' x
  | .stuck => False
def tB (G : Gx) (W : WX) (s : SB) : TA := fun σ H Q => ∃ ρ F Rv, ∃ io : Io G.ex.tabs, Rel G.K io Rv ρ F σ H ∧ match s ρ with
  | .ok os ρ' => ∀ vs H' F', FLe F F' → Rel G.K io Rv ρ' F' σ H' → OpdsOk G.K F' σ vs os → Q vs H'
  | .exc x ρ' => XPost G W io Rv F ρ' x
  | .stuck => False
/-- a new object that nobody else holds -/
def tF (G : Gx) (W : WX) (s : SE) : TE := fun σ H Q => ∃ ρ F Rv, ∃ io : Io G.ex.tabs, Rel G.K io Rv ρ F σ H ∧ match s ρ with
  | .ok d ρ' => ∀ p H' F', FLe F F' → Rel G.K io Rv ρ' F' σ H' → OwnAt G.K F' Rv H' p d → Loose ρ' σ p → Q (.ref p) H'
  | .exc x ρ' => XPost G W io Rv F ρ' x
  | .stuck => False
def SPost {T : List (Addr × Str)} (G : Gx) (W : WX) (io : Io T) (Rv F : Hp) (r : R Fl) (D : Ends) : Prop := match r with
  | .ok .nx ρ' => ∀ σ' H' F', FLe F F' → Rel G.K io Rv ρ' F' σ' H' → D.nx σ' H'
  | .ok .bk ρ' => ∀ σ' H' F', FLe F F' → Rel G.K io Rv ρ' F' σ' H' → D.bk σ' H'
  | .ok .ct ρ' => ∀ σ' H' F', FLe F F' → Rel G.K io Rv ρ' F' σ' H' → D.ct σ' H'
  | .ok (.rt d) ρ' => ∀ v σ' H' F', FLe F F' → Rel G.K io Rv ρ' F' σ' H' → Rp G.K F' v d → D.rt v H'
  | .exc x ρ' => XPost G W io Rv F ρ' x
  | .stuck => False
def tS (G : Gx) (W : WX) (s : SS) : TS := fun D σ H => ∃ ρ F Rv, ∃ io : Io G.ex.tabs, Rel G.K io Rv ρ F σ H ∧ SPost G W io Rv F (s ρ) D
/-- only the slots js differ -/
def Keeps (js : List Nat) (σ σ' : L2.St) : Prop := σ'.length = σ.length ∧ ∀ j, j ∉ js → σ'[j]? = σ[j]?
/-- a target: what it is given is frozen; js: the slots that it may change -/
def tG (G : Gx) (W : WX) (js : List Nat) (s : SG) : TG := fun v σ H Q => ∃ d ρ F Rv, ∃ io : Io G.ex.tabs, Rel G.K io Rv ρ F σ H ∧ Rp G.K F v d ∧ match s d ρ with
  | .ok _ ρ' => ∀ σ' H' F', FLe F F' → Rel G.K io Rv ρ' F' σ' H' → Keeps js σ σ' → Q σ' H'
  | .exc x ρ' => XPost G W io Rv F ρ' x
  | .stuck => False

theorem wkE {X : Cx} {e : Expr} {t u : TE} (h : PE X e t) (w : ∀ σ H Q, u σ H Q → t σ H Q) : PE X e u := ⟨fun pins s σ H Q I q => h.run pins s σ H Q I (w σ H Q q)⟩
theorem wkT {X : Cx} {e : Expr} {t u : TT} (h : PT X e t) (w : ∀ σ H Q, u σ H Q → t σ H Q) : PT X e u := ⟨fun pins s σ H Q I q => h.run pins s σ H Q I (w σ H Q q)⟩
theorem wkA {X : Cx} {e : List Expr} {t u : TA} (h : PA X e t) (w : ∀ σ H Q, u σ H Q → t σ H Q) : PA X e u := ⟨fun pos pins s σ H Q I q => h.run pos pins s σ H Q I (w σ H Q q)⟩
theorem wkS {X : Cx} {e : Stmt} {t u : TS} (h : PS X e t) (w : ∀ D σ H, u D σ H → t D σ H) : PS X e u := ⟨fun pins s σ H D I q => h.run pins s σ H D I (w D σ H q)⟩
theorem wkSs {X : Cx} {e : List Stmt} {t u : TS} (h : PSs X e t) (w : ∀ D σ H, u D σ H → t D σ H) : PSs X e u := ⟨fun pins s σ H D I q => h.run pins s σ H D I (w D σ H q)⟩

/-- an expression's value, locked behind it -/
def tLk (t : TE) : TE := fun σ H Q => t σ H fun v H' => Q v H' ∨ ∃ p o, v = .ref p ∧ H' p = some o ∧ Lkb o ∧ ∀ od, Q v (L2.upd H' p (lk od o))
theorem pe_lk {X : Cx} {e : Expr} {t : TE} (h : PE X e t) : PE X e (tLk t) := ⟨fun pins s σ H Q I q => thn (h.run pins s σ H _ I q) fun v s1 ⟨x, H1, I1, r, q1⟩ => by
  rcases q1 with q1 | ⟨p, o, rfl, e1, l, q1⟩
  · exact ⟨x, H1, I1, r, q1⟩
  · rcases l with ⟨xs, rfl⟩ | ⟨kvs, rfl⟩ | ⟨φ, rfl⟩
    · have e2 : L2.upd H1 p (.lst xs) = H1 := by
        funext a
        by_cases z : a = p
        · subst z; rw [upd_same, e1]
        · rw [upd_ne z]
      obtain ⟨od, _⟩ := I1.lock e1 trivial
      exact ⟨_, H1, I1, r, by have q2 := q1 od; rw [lk_lst, e2] at q2; exact q2⟩
    · obtain ⟨od, I2⟩ := I1.lock e1 trivial
      exact ⟨_, _, I2, r, q1 od⟩
    · obtain ⟨od, I2⟩ := I1.lock e1 trivial
      exact ⟨_, _, I2, r, q1 od⟩⟩
/-- where one stands: the law's context, the wish of exceptions -/
structure At (X : Cx) (W : WX) : Prop where
  calm : X.calm = true
  nd : X.N.Nodup
  un : X.A.units + 64 < cLine
  tk : L2N.Takes X W

abbrev DE (G : Gx) (X : Cx) (W : WX) (e : Expr) (s : SE) : Prop := PE X e (tE G W s)
abbrev DT (G : Gx) (X : Cx) (W : WX) (e : Expr) (s : ST) : Prop := PT X e (tT G W s)
abbrev DA (G : Gx) (X : Cx) (W : WX) (e : List Expr) (s : SA) : Prop := PA X e (tA G W s)
abbrev DO (G : Gx) (X : Cx) (W : WX) (e : Expr) (s : SO) : Prop := PE X e (tO G W s)
abbrev DB (G : Gx) (X : Cx) (W : WX) (e : List Expr) (s : SB) : Prop := PA X e (tB G W s)
abbrev DF (G : Gx) (X : Cx) (W : WX) (e : Expr) (s : SE) : Prop := PE X e (tF G W s)
abbrev DS (G : Gx) (X : Cx) (W : WX) (e : Stmt) (s : SS) : Prop := PS X e (tS G W s)
abbrev DSs (G : Gx) (X : Cx) (W : WX) (e : List Stmt) (s : SS) : Prop := PSs X e (tS G W s)
abbrev DG (G : Gx) (X : Cx) (W : WX) (js : List Nat) (e : Expr) (s : SG) : Prop := PG X e (tG G W js s)

section
variable {G : Gx} {W : WX} {T : List (Addr × Str)} {io : Io T} {Rv F F' F1 : Hp} {ρ ρ' : Env} {σ : L2.St} {H H' : Hp}
theorem XPost.le {x : Exn} (h : XPost G W io Rv F ρ x) (le : FLe F F1) : XPost G W io Rv F1 ρ x := fun cls dd σ' H' F' l => h cls dd σ' H' F' (le.trans l)
theorem EPost.le {d : D} {Q : VK} (h : EPost G io Rv F σ ρ d Q) (le : FLe F F1) : EPost G io Rv F1 σ ρ d Q := fun v H' F' l => h v H' F' (le.trans l)

/-! ### the views of operands -/
def Vw (K : PySem.W.Frag) (F H : Hp) (v : V) (d : D) : Prop := Rp K F v d ∨ ∃ p o, v = .ref p ∧ H p = some o ∧ OwnObj K F p o d
inductive Vws (K : PySem.W.Frag) (F H : Hp) : List V → List D → Prop
  | nil : Vws K F H [] []
  | cons {v : V} {vs : List V} {d : D} {ds : List D} : Vw K F H v d → Vws K F H vs ds → Vws K F H (v :: vs) (d :: ds)
theorem Rel.view (r : Rel G.K io Rv ρ F σ H) {v : V} {o : Opd} {d : D} (h : OpdOk G.K F σ v o) (e : o.get ρ = some d) : Vw G.K F H v d := by
  cases o with
  | val d' => cases e; exact .inl h
  | loc i =>
    have e : (ρ[i]?).bind Cell.data = some d := e
    cases ec : ρ[i]? with
    | none => rw [ec] at e; cases e
    | some c =>
      rw [ec] at e
      have e' : c.data = some d := e
      have q := r.cell i c _ ec h
      cases c with
      | no => cases e'
      | fro _ => cases e'; obtain ⟨x, ex, q⟩ := q; cases ex; exact .inl q
      | own _ => cases e'; obtain ⟨p, ex, q⟩ := q; cases ex; obtain ⟨o, h1, h2⟩ := q.at_; exact .inr ⟨p, o, rfl, h1, h2⟩
      | io _ => cases e'; obtain ⟨p, ex, q⟩ := q; cases ex; obtain ⟨o, h1, h2⟩ := q.at_; exact .inr ⟨p, o, rfl, h1, h2⟩
def getAll (ρ : Env) : List Opd → Option (List D)
  | [] => some []
  | o :: os => (o.get ρ).bind fun d => (getAll ρ os).map fun ds => d :: ds
theorem Rel.views (r : Rel G.K io Rv ρ F σ H) : ∀ {vs : List V} {os : List Opd} {ds : List D}, OpdsOk G.K F σ vs os → getAll ρ os = some ds → Vws G.K F H vs ds
  | _, _, _, .nil, e => by cases e; exact .nil
  | _, _, _, .cons (o := o) (os := os) a b, e => by
    unfold getAll at e
    cases e1 : o.get ρ with
    | none => rw [e1] at e; cases e
    | some d =>
      cases e2 : getAll ρ os with
      | none => rw [e1, e2] at e; cases e
      | some ds => rw [e1, e2] at e; cases e; exact .cons (r.view a e1) (r.views b e2)
theorem Vw.sqT {K : PySem.W.Frag} (fh : FLe F H) {v : V} {ds : List D} (h : Vw K F H v (.tup ds)) : ∃ a xs, v = .ref a ∧ SqT K H a xs ∧ Rps K F xs ds := by
  rcases h with h | ⟨p, o, _, _, h⟩
  · cases h with
    | tup t r => exact ⟨_, _, rfl, fh.sqT t.sq, r⟩
  · exact h.elim
theorem Vw.argT {K : PySem.W.Frag} (fh : FLe F H) {v : V} {ds : List D} (h : Vw K F H v (.arg ds)) : ∃ a xs, v = .ref a ∧ SqT K H a xs ∧ Rps K F xs ds := by
  rcases h with h | ⟨p, o, _, _, h⟩
  · cases h with
    | arg t r => exact ⟨_, _, rfl, fh.sqT t, r⟩
  · exact h.elim
theorem Vw.lst {K : PySem.W.Frag} (fh : FLe F H) {v : V} {ds : List D} (h : Vw K F H v (.lst ds)) : ∃ a xs, v = .ref a ∧ H a = some (.lst xs) ∧ Rps K F xs ds := by
  rcases h with h | ⟨p, o, e, h1, xs, rfl, r⟩
  · cases h with
    | lst t r => exact ⟨_, _, rfl, fh _ _ t, r⟩
  · exact ⟨p, xs, e, h1, r⟩
theorem Vw.dct {K : PySem.W.Frag} (fh : FLe F H) {v : V} {ks : List Key} {ds : List D} (h : Vw K F H v (.dct ks ds)) : ∃ a kvs, v = .ref a ∧ Rd H a (.dK kvs) ∧ kvs.map (·.1) = ks ∧ Rps K F (kvs.map (·.2)) ds := by
  rcases h with h | ⟨p, o, e, h1, kvs, rfl, e2, r⟩
  · cases h with
    | dct t r => exact ⟨_, _, rfl, .inr ⟨_, fh _ _ t⟩, rfl, r⟩
  · exact ⟨p, kvs, e, .inl h1, e2, r⟩
theorem Vw.int {K : PySem.W.Frag} {v : V} {i : Int} (h : Vw K F H v (.int i)) : v = .int i := by
  rcases h with h | ⟨p, o, _, _, h⟩
  · cases h; rfl
  · exact h.elim
theorem Vw.bl {K : PySem.W.Frag} {v : V} {i : Bool} (h : Vw K F H v (.bl i)) : v = .bl i := by
  rcases h with h | ⟨p, o, _, _, h⟩
  · cases h; rfl
  · exact h.elim
theorem Vw.str {K : PySem.W.Frag} {v : V} {i : Str} (h : Vw K F H v (.str i)) : v = .str i := by
  rcases h with h | ⟨p, o, _, _, h⟩
  · cases h; rfl
  · exact h.elim
theorem Vw.non {K : PySem.W.Frag} {v : V} (h : Vw K F H v .non) : v = .non := by
  rcases h with h | ⟨p, o, _, _, h⟩
  · cases h; rfl
  · exact h.elim
theorem Vws.one {K : PySem.W.Frag} {vs : List V} {d : D} (h : Vws K F H vs [d]) : ∃ v, vs = [v] ∧ Vw K F H v d := by
  cases h with
  | cons a b => cases b; exact ⟨_, rfl, a⟩
theorem Vws.two {K : PySem.W.Frag} {vs : List V} {d e : D} (h : Vws K F H vs [d, e]) : ∃ v w, vs = [v, w] ∧ Vw K F H v d ∧ Vw K F H w e := by
  cases h with
  | cons a b => cases b with
    | cons b c => cases c; exact ⟨_, _, rfl, a, b⟩

/-! ### operations by values -/
/-- behind an operation: more is there, what is frozen of it is new -/
structure New (F H F' H' : Hp) : Prop where
  f : FLe F F'
  h : FLe H H'
  fh : FLe F' H'
  new : ∀ a o, F' a = some o → F a = some o ∨ H a = none
  nt : NoTb F → NoTb F'
theorem New.refl (fh : FLe F H) : New F H F H := ⟨FLe.refl F, FLe.refl H, fh, (fun _ _ e => .inl e), fun h => h⟩
theorem Rel.after {K : PySem.W.Frag} (r : Rel K io Rv ρ F σ H) (n : New F H F' H') : Rel K io Rv ρ F' σ H' := r.grow n.f n.h n.fh n.new (n.nt r.nt)
theorem New.obj (fh : FLe F H) {p : Addr} (n : H p = none) (o : HO) (no : ∀ ps, o ≠ .tbl ps := by intro ps z; cases z) : New F H (upd F p o) (upd H p o) := by
  refine ⟨FLe.upd o (fh.noneOf n), FLe.upd o n, (fun a u e => ?_), (fun a u e => ?_), fun h => h.upd no⟩
  · by_cases h : a = p
    · subst h; rw [upd_same] at e ⊢; exact e
    · rw [upd_ne h] at e ⊢; exact fh a u e
  · by_cases h : a = p
    · subst h; exact .inr n
    · rw [upd_ne h] at e; exact .inl e
abbrev RL := List V → Hp → VK → Prop
/-- the rule r computes g on operands that are looked at -/
def PSem (G : Gx) (r : RL) (g : List D → Option D) : Prop := ∀ F H vs ds d (Q : VK), FLe F H → Vws G.K F H vs ds → g ds = some d → (∀ v H' F', New F H F' H' → Rp G.K F' v d → Q v H') → r vs H Q
/-- .. a new object -/
def FSem (G : Gx) (r : RL) (g : List D → Option D) : Prop := ∀ F H vs ds d (Q : VK), FLe F H → Vws G.K F H vs ds → g ds = some d → (∀ p o, H p = none → OwnObj G.K F p o d → Q (.ref p) (upd H p o)) → r vs H Q
theorem FSem.pure {r : RL} {g : List D → Option D} (h : FSem G r g) (hl : ∀ ds d, g ds = some d → ∃ xs, d = .lst xs) : PSem G r g := fun F H vs ds d Q fh vw e q => h F H vs ds d Q fh vw e fun p o n ob => by
  obtain ⟨xs, rfl⟩ := hl ds d e
  obtain ⟨ys, rfl, r⟩ := ob
  exact q _ _ _ (New.obj fh n _) (.lst upd_same (r.mono (FLe.upd _ (fh.noneOf n))))
end

/-! ### expressions -/
section
variable {G : Gx} {X : Cx} {W : WX}
def sCst (d : D) : SE := fun ρ => .ok d ρ
theorem d_cst {e : Expr} {v : V} {d : D} (h : PE X e (tC v)) (r : ∀ F, Rp G.K F v d) : DE G X W e (sCst d) := wkE h fun σ H Q ⟨ρ, F, Rv, io, rel, q⟩ => q v H F (FLe.refl F) rel (r F)
theorem d_int {i j pos} : DE G X W (.Constant (.int i) j pos) (sCst (.int i)) := d_cst pe_int fun _ => .int i
theorem d_bl {i j pos} : DE G X W (.Constant (.bool i) j pos) (sCst (.bl i)) := d_cst pe_bl fun _ => .bl i
theorem d_non {j pos} : DE G X W (.Constant .none j pos) (sCst .non) := d_cst pe_non fun _ => .non
theorem d_str {i j pos} : DE G X W (.Constant (.str i) j pos) (sCst (.str i)) := d_cst pe_str fun _ => .str i
/-- a variable: its own object is frozen -/
def sVar (i : Nat) : SE := fun ρ => match ρ[i]? with
  | some (.fro d) => .ok d ρ
  | some (.own d) => .ok d (ρ.set i (.fro d))
  | _ => .stuck
theorem d_var {e : Expr} {i : Nat} (h : PE X e (tVar i)) : DE G X W e (sVar i) := wkE (pe_lk h) fun σ H Q ⟨ρ, F, Rv, io, rel, q⟩ => by
  unfold sVar at q
  cases e : ρ[i]? with
  | none => rw [e] at q; exact q.elim
  | some c =>
    rw [e] at q
    obtain ⟨v, e2, ok⟩ := rel.slot e
    cases c with
    | no => exact q.elim
    | io _ => exact q.elim
    | fro d =>
      obtain ⟨x, rfl, r⟩ := ok
      exact ⟨x, e2, .inl (q x H F (FLe.refl F) rel r)⟩
    | own d =>
      obtain ⟨p, rfl, w⟩ := ok
      obtain ⟨o, h1, h2⟩ := w.at_
      refine ⟨_, e2, .inr ⟨p, o, rfl, h1, h2.lkb, fun od => ?_⟩⟩
      obtain ⟨le, rel', rp⟩ := rel.freeze e e2 h1 h2 od
      exact q _ _ _ le rel' rp
/-- looked at -/
def sLoc (i : Nat) : SO := fun ρ => match ρ[i]? with
  | some .no => .stuck
  | none => .stuck
  | _ => .ok (.loc i) ρ
theorem d_loc {e : Expr} {i : Nat} (h : PE X e (tVar i)) : DO G X W e (sLoc i) := wkE h fun σ H Q ⟨ρ, F, Rv, io, rel, q⟩ => by
  unfold sLoc at q
  cases e : ρ[i]? with
  | none => rw [e] at q; exact q.elim
  | some c =>
    rw [e] at q
    obtain ⟨v, e2, ok⟩ := rel.slot e
    cases c with
    | no => exact q.elim
    | io d => obtain ⟨p, rfl, w⟩ := ok; exact ⟨_, e2, q _ H F (FLe.refl F) rel e2⟩
    | fro d => obtain ⟨x, rfl, r⟩ := ok; exact ⟨_, e2, q _ H F (FLe.refl F) rel e2⟩
    | own d => obtain ⟨p, rfl, w⟩ := ok; exact ⟨_, e2, q _ H F (FLe.refl F) rel e2⟩
def sVal (s : SE) : SO := fun ρ => (s ρ).bind fun d ρ' => .ok (.val d) ρ'
theorem d_val {e : Expr} {s : SE} (h : DE G X W e s) : DO G X W e (sVal s) := wkE h fun σ H Q ⟨ρ, F, Rv, io, rel, q⟩ => by
  refine ⟨ρ, F, Rv, io, rel, ?_⟩
  unfold sVal at q
  cases e : s ρ with
  | stuck => rw [e] at q; exact q.elim
  | exc x ρ' => rw [e] at q; exact q
  | ok d ρ' => rw [e] at q; exact fun v H' F' le rel' r => q v H' F' le rel' r

def sNil : SA := fun ρ => .ok [] ρ
def sCons (s : SE) (t : SA) : SA := fun ρ => (s ρ).bind fun d ρ1 => (t ρ1).bind fun ds ρ2 => .ok (d :: ds) ρ2
theorem d_nil : DA G X W [] sNil := wkA pa_nil fun σ H Q ⟨ρ, F, Rv, io, rel, q⟩ => q [] H F (FLe.refl F) rel .nil
theorem d_cons {e : Expr} {es : List Expr} {s : SE} {t : SA} (h : DE G X W e s) (ht : DA G X W es t) (hs : starEach (e :: es) X.env = (false, eval e X.env) :: starEach es X.env := by rfl) : DA G X W (e :: es) (sCons s t) :=
  wkA (pa_cons h ht hs) fun σ H Q ⟨ρ, F, Rv, io, rel, q⟩ => by
    refine ⟨ρ, F, Rv, io, rel, ?_⟩
    unfold sCons at q
    cases e : s ρ with
    | stuck => rw [e] at q; exact q.elim
    | exc x ρ' => rw [e] at q; exact q
    | ok d ρ' =>
      rw [e] at q
      refine fun v H' F' le rel' r => ⟨ρ', F', Rv, io, rel', ?_⟩
      rw [R.bind_ok] at q
      cases e2 : t ρ' with
      | stuck => rw [e2] at q; exact q.elim
      | exc x ρ'' => rw [e2] at q; exact XPost.le q le
      | ok ds ρ'' => rw [e2] at q; exact fun vs H2 F2 le2 rel2 r2 => q (v :: vs) H2 F2 (le.trans le2) rel2 (.cons (r.mono le2) r2)
def bNil : SB := fun ρ => .ok [] ρ
def bCons (s : SO) (t : SB) : SB := fun ρ => (s ρ).bind fun d ρ1 => (t ρ1).bind fun ds ρ2 => .ok (d :: ds) ρ2
theorem d_bnil : DB G X W [] bNil := wkA pa_nil fun σ H Q ⟨ρ, F, Rv, io, rel, q⟩ => q [] H F (FLe.refl F) rel .nil
theorem d_bcons {e : Expr} {es : List Expr} {s : SO} {t : SB} (h : DO G X W e s) (ht : DB G X W es t) (hs : starEach (e :: es) X.env = (false, eval e X.env) :: starEach es X.env := by rfl) : DB G X W (e :: es) (bCons s t) :=
  wkA (pa_cons h ht hs) fun σ H Q ⟨ρ, F, Rv, io, rel, q⟩ => by
    refine ⟨ρ, F, Rv, io, rel, ?_⟩
    unfold bCons at q
    cases e : s ρ with
    | stuck => rw [e] at q; exact q.elim
    | exc x ρ' => rw [e] at q; exact q
    | ok d ρ' =>
      rw [e] at q
      refine fun v H' F' le rel' r => ⟨ρ', F', Rv, io, rel', ?_⟩
      rw [R.bind_ok] at q
      cases e2 : t ρ' with
      | stuck => rw [e2] at q; exact q.elim
      | exc x ρ'' => rw [e2] at q; exact XPost.le q le
      | ok ds ρ'' => rw [e2] at q; exact fun vs H2 F2 le2 rel2 r2 => q (v :: vs) H2 F2 (le.trans le2) rel2 (.cons (r.mono le2) r2)

/-- an operation on operands that are looked at -/
def ofO {α : Type} (o : Option α) (ρ : Env) : R α := match o with
  | some a => .ok a ρ
  | none => .stuck
def sOps (g : List D → Option D) (s : SB) : SE := fun ρ => (s ρ).bind fun os ρ' => ofO ((getAll ρ' os).bind g) ρ'
def b1 (s : SO) : SB := bCons s bNil
def b2 (s t : SO) : SB := bCons s (bCons t bNil)
/-- a list of operands behind a rule by values -/
theorem ops_core {r : RL} {g : List D → Option D} (hg : PSem G r g) {s : SB} {σ : L2.St} {H : Hp} {Q : VK} (h : tE G W (sOps g s) σ H Q) : tB G W s σ H fun vs H' => r vs H' Q := by
  obtain ⟨ρ, F, Rv, io, rel, q⟩ := h
  refine ⟨ρ, F, Rv, io, rel, ?_⟩
  unfold sOps at q
  cases e : s ρ with
  | stuck => rw [e] at q; exact q.elim
  | exc x ρ' => rw [e] at q; exact q
  | ok os ρ' =>
    rw [e, R.bind_ok] at q
    refine fun vs H' F' le rel' ok => ?_
    cases e2 : getAll ρ' os with
    | none => rw [e2] at q; exact q.elim
    | some ds =>
      rw [e2, Option.bind_some] at q
      cases e3 : g ds with
      | none => rw [e3] at q; exact q.elim
      | some d =>
        rw [e3] at q
        exact hg F' H' vs ds d Q rel'.fH (rel'.views ok e2) e3 fun v H2 F2 n rp => q v H2 F2 (le.trans n.f) (rel'.after n) rp
theorem opsF_core {r : RL} {g : List D → Option D} (hg : FSem G r g) {s : SB} {σ : L2.St} {H : Hp} {Q : VK} (h : tF G W (sOps g s) σ H Q) : tB G W s σ H fun vs H' => r vs H' Q := by
  obtain ⟨ρ, F, Rv, io, rel, q⟩ := h
  refine ⟨ρ, F, Rv, io, rel, ?_⟩
  unfold sOps at q
  cases e : s ρ with
  | stuck => rw [e] at q; exact q.elim
  | exc x ρ' => rw [e] at q; exact q
  | ok os ρ' =>
    rw [e, R.bind_ok] at q
    refine fun vs H' F' le rel' ok => ?_
    cases e2 : getAll ρ' os with
    | none => rw [e2] at q; exact q.elim
    | some ds =>
      rw [e2, Option.bind_some] at q
      cases e3 : g ds with
      | none => rw [e3] at q; exact q.elim
      | some d =>
        rw [e3] at q
        refine hg F' H' vs ds d Q rel'.fH (rel'.views ok e2) e3 fun p o n ob => ?_
        have nF : F' p = none := rel'.fH.noneOf n
        have nR : Rv p = none := rel'.rH.noneOf n
        exact q p _ F' le (rel'.newH n o) ⟨nF, nR, o, upd_same, ob⟩ (rel'.loose n)
/-- two operands, one after the other -/
theorem two_core {a b : Expr} {sa sb : SO} {σ : L2.St} {H : Hp} {k : List V → Hp → Prop} (h : tB G W (b2 sa sb) σ H k) : tO G W sa σ H fun x H1 => tO G W sb σ H1 fun y H2 => k [x, y] H2 := by
  obtain ⟨ρ, F, Rv, io, rel, q⟩ := h
  refine ⟨ρ, F, Rv, io, rel, ?_⟩
  unfold b2 bCons at q
  cases e : sa ρ with
  | stuck => rw [e] at q; exact q.elim
  | exc x ρ' => rw [e] at q; exact q
  | ok o ρ' =>
    rw [e, R.bind_ok] at q
    refine fun v H' F' le rel' r => ⟨ρ', F', Rv, io, rel', ?_⟩
    cases e2 : sb ρ' with
    | stuck => rw [e2] at q; exact q.elim
    | exc x ρ'' => rw [e2] at q; exact XPost.le q le
    | ok o2 ρ'' =>
      rw [e2] at q
      exact fun w H2 F2 le2 rel2 r2 => q [v, w] H2 F2 (le.trans le2) rel2 (.cons (r.mono le2) (.cons r2 .nil))
theorem one_core {sa : SO} {σ : L2.St} {H : Hp} {k : List V → Hp → Prop} (h : tB G W (b1 sa) σ H k) : tO G W sa σ H fun x H1 => k [x] H1 := by
  obtain ⟨ρ, F, Rv, io, rel, q⟩ := h
  refine ⟨ρ, F, Rv, io, rel, ?_⟩
  unfold b1 bCons at q
  cases e : sa ρ with
  | stuck => rw [e] at q; exact q.elim
  | exc x ρ' => rw [e] at q; exact q
  | ok o ρ' =>
    rw [e, R.bind_ok] at q
    exact fun v H' F' le rel' r => q [v] H' F' le rel' (.cons r .nil)
def r2L (r : R2) : RL := fun vs H Q => ∃ x y, vs = [x, y] ∧ r x y H Q
theorem d_bin {a b : Expr} {op : Operator} {pos : Pos} {r : R2} {g : List D → Option D} {sa sb : SO} (ho : OpR X (binaryOp op) r) (hg : PSem G (r2L r) g) (ha : DO G X W a sa) (hb : DO G X W b sb) : DE G X W (.BinOp a op b pos) (sOps g (b2 sa sb)) :=
  wkE (pe_op ho ha hb) fun σ H Q h => by
    have z := two_core (a := a) (b := b) (ops_core hg h)
    obtain ⟨ρ, F, Rv, io, rel, q⟩ := z
    refine ⟨ρ, F, Rv, io, rel, ?_⟩
    revert q
    cases sa ρ with
    | stuck => exact fun q => q
    | exc x ρ' => exact fun q => q
    | ok o ρ' =>
      intro q v H' F' le rel' r'
      obtain ⟨ρ2, F2, Rv2, io2, rel2, q2⟩ := q v H' F' le rel' r'
      refine ⟨ρ2, F2, Rv2, io2, rel2, ?_⟩
      revert q2
      cases sb ρ2 with
      | stuck => exact fun q => q
      | exc x ρ' => exact fun q => q
      | ok o ρ' =>
        intro q2 w H3 F3 le3 rel3 r3
        obtain ⟨x, y, e, z⟩ := q2 w H3 F3 le3 rel3 r3
        cases e
        exact z
end
end Dt

set_option Elab.async false
set_option linter.all false
set_option maxRecDepth 100000
set_option maxHeartbeats 4000000
/-! Rules that make tuples, the new object told whole: so it is known to have no dictionary of its own (dict(t) asks). -/
namespace Dt
open PySem PySem.Spec PyProof.Rows L2
abbrev tupO (its : List Value) : Obj := { cls := .type "tuple", data := .seq its.toArray }
/-- the new tuple at p -/
def NewT (H : Hp) (xs : List V) (Q : VK) : Prop := ∀ p o, H p = none → o.dict = none → Q (.ref p) (upd H p (.frz o (.tup xs)))
section
variable {X : Cx} {pins : List (Addr × Obj)} {σ : L2.St} {H : Hp} {s : Shared}
theorem frz_ok {P : Program} {w : World} {H : Hp} {h : Heap} {its : List Value} {xs : List V} (z : xs.length ≤ sizeLine) (r : Vals xs its) : ObjOk P w H (h.push (tupO its)) h.objs.size (.frz (tupO its) (.tup xs)) :=
  ⟨Heap.get?_push_size _ rfl, z, its, r, IsTup.new _ _⟩
theorem made {its : List Value} {xs : List V} {Q : VK} (I : Inv X pins σ H s) (r : Vals xs its) (z : xs.length ≤ sizeLine) (q : NewT H xs Q) : EP X pins σ Q (.ref s.heap.objs.size) { s with heap := s.heap.push (tupO its) } :=
  ⟨.ref s.heap.objs.size, _, I.laid (t' := s.toks) (o := .frz (tupO its) (.tup xs)) (fun b ob e => Heap.get?_push_of_some _ e) (Nat.le_refl _) (frz_ok z r), rfl, q _ _ (I.hok.fresh (Nat.le_refl _)) rfl⟩
/-- (a, b, ..) -/
def tTupZ (t : TA) : TE := fun σ H Q => t σ H fun xs H1 => xs.length ≤ sizeLine ∧ NewT H1 xs Q
theorem pe_tupZ {es : List Expr} {t : TA} {x1 : Nat} {pos : Pos} (h : PA X es t) : PE X (.Tuple es x1 pos) (tTupZ t) :=
  ⟨fun pins s σ H Q I hq => wpAny_Tuple_spliced (thn (h.run pos pins s σ H _ I hq) fun us s1 ⟨xs, H1, I1, r, z, q⟩ => ⟨by rw [← r.length]; exact z, made I1 r z q⟩)⟩
/-- t + u -/
def rCatZ (K : PySem.W.Frag) : R2 := fun x y H Q => ∃ (a b : Addr) (xs ys : List V), x = V.ref a ∧ y = V.ref b ∧ SqT K H a xs ∧ SqT K H b ys ∧ xs.length + ys.length ≤ sizeLine ∧ (xs = [] → Q (.ref b) H) ∧ (xs ≠ [] → ys = [] → Q (.ref a) H) ∧ (xs ≠ [] → ys ≠ [] → NewT H (xs ++ ys) Q)
theorem op_catZ : OpR X (binaryOp .Add) (rCatZ X.K) := by
  intro pins s σ H x y v u Q I rx ry ⟨a, b, xs, ys, ex, ey, ha, hb, hz, q0, q1, q2⟩
  subst ex ey
  by_cases hx : xs = []
  · exact op_catA pins s σ H _ _ v u Q I rx ry ⟨a, b, xs, ys, rfl, rfl, ha, hb, hz, q0, q1, fun n => absurd hx n⟩
  · cases rx; cases ry
    obtain ⟨its, r1, p1, _⟩ := I.tuple ha
    obtain ⟨its2, r2, p2, _⟩ := I.tuple hb
    exact HT.cat_tup p1 p2 (fun z => hx (r1.nil_iff.mp z)) (fun z => ⟨.ref a, H, I, rfl, q1 hx (r2.nil_iff.mp z)⟩) (fun z => made I (r1.append r2) (by rw [List.length_append]; exact hz) (q2 hx fun w => z (r2.nil_iff.mpr w))) (by rw [← r1.length, ← r2.length]; exact hz)
/-- t[lo:hi] -/
def rSlZ (K : PySem.W.Frag) : V → Option Int → Option Int → Hp → VK → Prop := fun x lo hi H Q => ∃ (a : Addr) (xs : List V), x = V.ref a ∧ SqT K H a xs ∧
  (HT.sIx xs.length 0 lo = 0 ∧ HT.sIx xs.length xs.length hi = xs.length → Q (.ref a) H) ∧ (¬ (HT.sIx xs.length 0 lo = 0 ∧ HT.sIx xs.length xs.length hi = xs.length) → NewT H (cutV xs lo hi) Q)
theorem sl_tupZ : SlR X (rSlZ X.K) := by
  intro pins s σ H x v vl vu lo hi sl Q I rx hs pl pu ⟨a, xs, ex, hx, q1, q2⟩
  subst ex
  by_cases hw : HT.sIx xs.length 0 lo = 0 ∧ HT.sIx xs.length xs.length hi = xs.length
  · exact sl_tupA pins s σ H _ v vl vu lo hi sl Q I rx hs pl pu ⟨a, xs, rfl, hx, q1, fun n => absurd hw n⟩
  · cases rx
    obtain ⟨its, r, ht, hz⟩ := I.tuple hx
    have hlen : its.toArray.size = xs.length := by rw [List.size_toArray]; exact r.length.symm
    refine ⟨"tuple", _, PyProof.Rows.slot_tuple_getitem.lookup, ht.typeIs, HT.getItem_tuple_cut ht hs pl pu (by rw [hlen]; exact hw) ?_ (by rw [hlen]; exact hz)⟩
    rw [hlen]
    exact made I ((r.drop (HT.sIx xs.length 0 lo)).take (HT.sIx xs.length xs.length hi - HT.sIx xs.length 0 lo)) (Nat.le_trans (cutV_length xs lo hi) hz) (q2 hw)
/-- tuple(x) -/
theorem call_tupleZ : CallR X (.type "tuple") (fun xs H Q => ∃ (p : Addr) (ys : List V), xs = [V.ref p] ∧ ((SqL X.K H p ys ∧ NewT H ys Q) ∨ (SqT X.K H p ys ∧ Q (.ref p) H))) := by
  intro pins s σ H xs us Q I r ⟨p, ys, ex, h⟩
  subst ex
  obtain ⟨u, eu, rx⟩ := vals1 r
  subst eu; cases rx
  rcases h with ⟨hq, q⟩ | ⟨hq, q⟩
  · obtain ⟨its, r', pl, hz⟩ := I.list hq
    have hlen := r'.length
    exact call_tuple_list pl.isList (fun h1 kp => made (s := { s with heap := h1 }) (I.kept (t' := s.toks) kp) r' hz q) (by simp only [List.size_toArray]; omega)
  · obtain ⟨its, r', pl, hz⟩ := I.tuple hq
    exact call_tuple_same pl ⟨.ref p, H, I, rfl, q⟩
/-- t * k -/
theorem tuple_mul1 (l : Addr) (items : Array Value) (n : Nat) (dd : Option Addr) (sl : Array (Option Value)) (u : Tok) :
    Meets (Builtin.«tuple.__mul__» ⟨[.ref l, .int 1 u], []⟩) (fun _ R s => s.heap.get? l = some { cls := .type "tuple", dict := dd, data := .seq items n, slots := sl } ∧ R (.ok (.ret (Value.ref l))) s) :=
  .of_wp fun prog w A R s h => by
    obtain ⟨hp, g, d, tk, os⟩ := s
    obtain ⟨hl, h⟩ := h
    have f1 := AutoSeq1.idx_int
    wp_walk using wpAny_loadPart' hl
    repeat (first
      | (refine wpAny_ite_false (decide_eq_false (by decide)) ?_; wp_walk using wpAny_loadPart' hl)
      | (refine wpAny_ite_true (decide_eq_true (by simp)) ?_; wp_walk using wpAny_loadPart' hl))
    exact ⟨_, rfl, h⟩
/-- t * 1: the same tuple -/
def rRep1 (K : PySem.W.Frag) : R2 := fun x y H Q => ∃ (l : Addr) (xs : List V), x = V.ref l ∧ y = V.int 1 ∧ SqT K H l xs ∧ Q (.ref l) H
theorem op_rep1 : OpR X (binaryOp .Mult) (rRep1 X.K) := by
  intro pins s σ H x y v u Q I rx ry ⟨l, xs, ex, ey, hT, q⟩
  subst ex ey
  cases rx
  obtain ⟨t, rfl⟩ := ry
  obtain ⟨its, r, ⟨⟨cls, dd, data, sl⟩, ho, hc, n, hd⟩, hs⟩ := I.tuple hT
  obtain rfl : cls = _ := hc
  obtain rfl : data = _ := hd
  exact wpAny_binaryOp_repeat_ref (T := "tuple") (U := "int") (by decide) ⟨_, ho, rfl⟩ (fun z => typeIs_int z 1 t) noFill_tuple_mul F.fills_int_mul F.slot_int_rmul repeat_tuple F.slot_int_index.lookup (call_meets F.slot_int_rmul (typeIs_int s 1 t) F.entry_int_rmul (F.args_int_rmul_2 _ _) (int_rmul_tuple 1 t l its.toArray n dd sl)
    ⟨ho, rfl, ⟨_, ho, rfl⟩, call_meets F.slot_tuple_mul ⟨_, ho, rfl⟩ F.entry_tuple_mul (F.args_tuple_mul_2 _ _) (tuple_mul1 l its.toArray n dd sl t) ⟨ho, ⟨.ref l, H, I, rfl, q⟩⟩⟩)
def rRepZ (K : PySem.W.Frag) : R2 := fun x y H Q => ∃ (l : Addr) (k : Int) (xs : List V), x = V.ref l ∧ y = V.int k ∧ SqT K H l xs ∧ xs ≠ [] ∧ 2 ≤ k ∧ k ≤ 1000 ∧ xs.length ≤ 1000 ∧ NewT H (List.replicate k.toNat xs).flatten Q
theorem rep_len {α : Type} {l : List α} {k : Int} (h1 : l.length ≤ 1000) (h2 : k ≤ 1000) : (List.replicate k.toNat l).flatten.length ≤ sizeLine := by
  have h3 : k.toNat * l.length ≤ 1000 * 1000 := Nat.mul_le_mul (by omega) h1
  rw [PyProof.Rows.lm_len_rep_flat, sizeLine_eq]; omega
theorem op_repZ : OpR X (binaryOp .Mult) (rRepZ X.K) := by
  intro pins s σ H x y v u Q I rx ry ⟨l, k, xs, ex, ey, hT, ne, h1, h2, hz, q⟩
  subst ex ey
  cases rx
  obtain ⟨t, rfl⟩ := ry
  obtain ⟨its, r, ⟨⟨cls, dd, data, sl⟩, ho, hc, n, hd⟩, hs⟩ := I.tuple hT
  obtain rfl : cls = _ := hc
  obtain rfl : data = _ := hd
  have le := r.length
  have full : its.toArray.isEmpty = false := by
    cases its with
    | nil => exact absurd (List.eq_nil_of_length_eq_zero le) ne
    | cons a b => rfl
  have sz : ((its.toArray.size : Nat) : Int) * k ≤ 1000 * k := Int.mul_le_mul_of_nonneg_right (by rw [List.size_toArray]; omega) (by omega)
  have b0 : (decide (k < -(2 ^ 63)) || decide (k ≥ 2 ^ 63)) = false := by simp; omega
  have b1 : (its.toArray.isEmpty || k == 1) = false := by rw [full, Bool.false_or]; exact beq_eq_false_iff_ne.mpr (by omega)
  have b2 : (decide (k ≤ 0) || its.toArray.isEmpty) = false := by rw [full, Bool.or_false]; exact decide_eq_false (by omega)
  have b3 : Builtin.Tuple.tupleTooMany (((its.toArray.size : Nat) : Int) * k) = false := by unfold Builtin.Tuple.tupleTooMany; rw [sizeLine_eq]; exact decide_eq_false (by omega)
  refine wpAny_binaryOp_repeat_ref (T := "tuple") (U := "int") (by decide) ⟨_, ho, rfl⟩ (fun z => typeIs_int z k t) noFill_tuple_mul F.fills_int_mul F.slot_int_rmul repeat_tuple F.slot_int_index.lookup (call_meets F.slot_int_rmul (typeIs_int s k t) F.entry_int_rmul (F.args_int_rmul_2 _ _) (int_rmul_tuple k t l its.toArray n dd sl)
    ⟨ho, rfl, ⟨_, ho, rfl⟩, call_meets F.slot_tuple_mul ⟨_, ho, rfl⟩ F.entry_tuple_mul (F.args_tuple_mul_2 _ _) (tuple_mulW l its.toArray n dd sl k t b0 b1 b2 (by omega) b3 (by rw [size_rep, List.size_toArray]; exact rep_len (by omega) h2)) ⟨ho, ?_⟩⟩)
  rw [size_rep]
  exact made I (r.rep k.toNat) (rep_len hz h2) q
end
end Dt

set_option Elab.async false
set_option linter.all false
set_option maxRecDepth 100000
set_option maxHeartbeats 2000000
/-! Operations by values: what they compute on plain data. -/
namespace Dt
open PySem PySem.Spec PyProof.Rows L2

mutual
def D.py : D → Option PyData
  | .non => some .none
  | .bl b => some (.bool b)
  | .int i => some (.int i)
  | .str s => some (.str s)
  | .tup ds => (D.pys ds).map .tuple
  | .lst ds => (D.pys ds).map .list
  | .dct _ _ => none
  | .scr _ => none
  | .arg _ => none
  | .fn _ => none
  | .exn _ => none
  | .nd _ _ => none
def D.pys : List D → Option (List PyData)
  | [] => some []
  | d :: ds => (D.py d).bind fun x => (D.pys ds).map fun xs => x :: xs
end
mutual
theorem Rp.dp {K : PySem.W.Frag} {F : Hp} : ∀ {v : V} {d : D} {e : PyData}, Rp K F v d → d.py = some e → Dp K F v e
  | _, _, _, .non, h => by simp only [D.py] at h; cases h; exact .non
  | _, _, _, .bl b, h => by simp only [D.py] at h; cases h; exact .bl b
  | _, _, _, .int b, h => by simp only [D.py] at h; cases h; exact .int b
  | _, _, _, .str b, h => by simp only [D.py] at h; cases h; exact .str b
  | _, _, _, .tup (ds := ds) t r, h => by
    simp only [D.py] at h
    cases e : D.pys ds with
    | none => rw [e] at h; cases h
    | some xs => rw [e] at h; cases h; exact .tup t.sq (Rps.dp r e)
  | _, _, _, .lst (ds := ds) t r, h => by
    simp only [D.py] at h
    cases e : D.pys ds with
    | none => rw [e] at h; cases h
    | some xs => rw [e] at h; cases h; exact .lst (SqL.of t) (Rps.dp r e)
  | _, _, _, .dct _ _, h => by simp only [D.py] at h; cases h
  | _, _, _, .scr _, h => by simp only [D.py] at h; cases h
  | _, _, _, .arg _ _, h => by simp only [D.py] at h; cases h
  | _, _, _, .fn _, h => by simp only [D.py] at h; cases h
  | _, _, _, .exn _, h => by simp only [D.py] at h; cases h
  | _, _, _, .nd _ _ _ _, h => by simp only [D.py] at h; cases h
theorem Rps.dp {K : PySem.W.Frag} {F : Hp} : ∀ {vs : List V} {ds : List D} {es : List PyData}, Rps K F vs ds → D.pys ds = some es → DpAll K F vs es
  | _, _, _, .nil, h => by simp only [D.pys] at h; cases h; exact .nil
  | _, _, _, .cons (d := d) (ds := ds) a b, h => by
    simp only [D.pys] at h
    cases e1 : D.py d with
    | none => rw [e1] at h; cases h
    | some x =>
      cases e2 : D.pys ds with
      | none => rw [e1, e2] at h; cases h
      | some xs => rw [e1, e2] at h; cases h; exact .cons (Rp.dp a e1) (Rps.dp b e2)
end
theorem Vw.dp {K : PySem.W.Frag} {F H : Hp} (fh : FLe F H) {v : V} {d : D} {e : PyData} (h : Vw K F H v d) (q : d.py = some e) : Dp K H v e := by
  rcases h with h | ⟨p, o, rfl, h1, h2⟩
  · exact (h.mono fh).dp q
  · cases d with
    | lst ds =>
      obtain ⟨xs, rfl, r⟩ := h2
      exact Rp.dp (.lst h1 (r.mono fh)) q
    | _ => first | exact h2.elim | (simp only [D.py] at q; cases q)

section
variable {G : Gx}
def gI (C : Int → Int → Prop) [∀ i j, Decidable (C i j)] (f : Int → Int → D) : List D → Option D
  | [.int i, .int j] => if C i j then some (f i j) else none
  | _ => none
/-- a result that is no object -/
theorem fin_flat {F H : Hp} {K : PySem.W.Frag} {v : V} {d : D} {Q : VK} (fh : FLe F H) (q : ∀ v H' F', New F H F' H' → Rp K F' v d → Q v H') (r : Rp K F v d) : Q v H := q v H F (New.refl fh) r
/-- a rule of two ints -/
theorem psem_I {C : Int → Int → Prop} [∀ i j, Decidable (C i j)] {f : Int → Int → D} {fv : Int → Int → V} (hf : ∀ F i j, Rp G.K F (fv i j) (f i j)) : PSem G (r2L (rI C fv)) (gI C f) := fun F H vs ds d Q fh vw e q => by
  unfold gI at e
  split at e
  · rename_i i j
    split at e
    · rename_i hc
      cases e
      obtain ⟨v, w, rfl, h1, h2⟩ := vw.two
      exact ⟨v, w, rfl, i, j, h1.int, h2.int, hc, fin_flat fh q (hf F i j)⟩
    · cases e
  · cases e
theorem psem_I0 {f : Int → Int → D} {fv : Int → Int → V} (hf : ∀ F i j, Rp G.K F (fv i j) (f i j)) : PSem G (r2L (rI0 fv)) (gI (fun _ _ => True) f) := fun F H vs ds d Q fh vw e q => by
  unfold gI at e
  split at e
  · rename_i i j
    split at e
    · cases e
      obtain ⟨v, w, rfl, h1, h2⟩ := vw.two
      exact ⟨v, w, rfl, i, j, h1.int, h2.int, fin_flat fh q (hf F i j)⟩
    · cases e
  · cases e
def gStr2 (C : Str → Str → Prop) [∀ i j, Decidable (C i j)] (f : Str → Str → D) : List D → Option D
  | [.str i, .str j] => if C i j then some (f i j) else none
  | _ => none
instance (i j : Str) : Decidable (i.length + j.length ≤ sizeLine) := inferInstance
theorem psem_catS : PSem G (r2L fun x y H Q => ∃ i j, x = .str i ∧ y = .str j ∧ i.length + j.length ≤ sizeLine ∧ Q (.str (i ++ j)) H) (gStr2 (fun i j => i.length + j.length ≤ sizeLine) fun i j => .str (i ++ j)) := fun F H vs ds d Q fh vw e q => by
  unfold gStr2 at e
  split at e
  · rename_i i j
    split at e
    · rename_i hc
      cases e
      obtain ⟨v, w, rfl, h1, h2⟩ := vw.two
      exact ⟨v, w, rfl, i, j, h1.str, h2.str, hc, fin_flat fh q (.str _)⟩
    · cases e
  · cases e
theorem psem_strB {f : Str → Str → Bool} : PSem G (r2L fun x y H Q => ∃ i j, x = .str i ∧ y = .str j ∧ Q (.bl (f i j)) H) (gStr2 (fun _ _ => True) fun i j => .bl (f i j)) := fun F H vs ds d Q fh vw e q => by
  unfold gStr2 at e
  split at e
  · rename_i i j
    split at e
    · cases e
      obtain ⟨v, w, rfl, h1, h2⟩ := vw.two
      exact ⟨v, w, rfl, i, j, h1.str, h2.str, fin_flat fh q (.bl _)⟩
    · cases e
  · cases e
/-- tuples -/
def gCatT : List D → Option D
  | [.tup a, .tup b] => if a.length + b.length ≤ sizeLine then some (.tup (a ++ b)) else none
  | _ => none
theorem psem_catT : PSem G (r2L (rCatZ G.K)) gCatT := fun F H vs ds d Q fh vw e q => by
  unfold gCatT at e
  split at e
  · rename_i ds1 ds2
    split at e
    · rename_i hc
      cases e
      obtain ⟨v, w, rfl, h1, h2⟩ := vw.two
      obtain ⟨a, xs, rfl, t1, r1⟩ := h1.sqT fh
      obtain ⟨b, ys, rfl, t2, r2⟩ := h2.sqT fh
      have rp1 : Rp G.K F (.ref a) (.tup ds1) := by rcases h1 with z | ⟨_, _, _, _, z⟩; exact z; exact z.elim
      have rp2 : Rp G.K F (.ref b) (.tup ds2) := by rcases h2 with z | ⟨_, _, _, _, z⟩; exact z; exact z.elim
      refine ⟨_, _, rfl, a, b, xs, ys, rfl, rfl, t1, t2, by rw [r1.length, r2.length]; exact hc, fun z => ?_, fun z1 z2 => ?_, fun z1 z2 p o hp ho => ?_⟩
      · subst z
        cases r1
        exact fin_flat fh q (by simpa using rp2)
      · subst z2
        cases r2
        exact fin_flat fh q (by simpa using rp1)
      · exact q _ _ _ (New.obj fh hp _) (.tup (.new ho) ((r1.append r2).mono (FLe.upd _ (fh.noneOf hp))))
    · cases e
  · cases e
/-- lists -/
def gCatL : List D → Option D
  | [.lst a, .lst b] => if a.length + b.length ≤ sizeLine then some (.lst (a ++ b)) else none
  | _ => none
theorem catL_lst (ds : List D) (d : D) (e : gCatL ds = some d) : ∃ xs, d = .lst xs := by
  unfold gCatL at e
  split at e
  · split at e
    · cases e; exact ⟨_, rfl⟩
    · cases e
  · cases e
theorem fsem_catL : FSem G (r2L rCat) gCatL := fun F H vs ds d Q fh vw e q => by
  unfold gCatL at e
  split at e
  · rename_i ds1 ds2
    split at e
    · rename_i hc
      cases e
      obtain ⟨v, w, rfl, h1, h2⟩ := vw.two
      obtain ⟨a, xs, rfl, t1, r1⟩ := h1.lst fh
      obtain ⟨b, ys, rfl, t2, r2⟩ := h2.lst fh
      exact ⟨_, _, rfl, a, b, xs, ys, rfl, rfl, t1, t2, by rw [r1.length, r2.length]; exact hc, fun p hp => q p _ hp ⟨_, rfl, r1.append r2⟩⟩
    · cases e
  · cases e
/-- a + b -/
def rAddAll (K : PySem.W.Frag) : R2 := fun x y H Q => rI0 (fun i j => .int (i + j)) x y H Q ∨ ((∃ i j, x = .str i ∧ y = .str j ∧ i.length + j.length ≤ sizeLine ∧ Q (.str (i ++ j)) H) ∨ (rCatZ K x y H Q ∨ rCat x y H Q))
theorem op_addAll {X : Cx} : OpR X (binaryOp .Add) (rAddAll X.K) := op_add.or (op_add_str.or (op_catZ.or op_cat))
def gAdd : List D → Option D
  | [.int i, .int j] => some (.int (i + j))
  | [.str i, .str j] => if i.length + j.length ≤ sizeLine then some (.str (i ++ j)) else none
  | [.tup a, .tup b] => if a.length + b.length ≤ sizeLine then some (.tup (a ++ b)) else none
  | [.lst a, .lst b] => if a.length + b.length ≤ sizeLine then some (.lst (a ++ b)) else none
  | _ => none
theorem psem_add : PSem G (r2L (rAddAll G.K)) gAdd := fun F H vs ds d Q fh vw e q => by
  unfold gAdd at e
  split at e
  · rename_i i j
    obtain ⟨x, y, e1, z⟩ := psem_I0 (G := G) (f := fun i j => .int (i + j)) (fv := fun i j => .int (i + j)) (fun _ _ _ => .int _) F H vs [.int i, .int j] d Q fh vw e q
    exact ⟨x, y, e1, .inl z⟩
  · rename_i i j
    obtain ⟨x, y, e1, z⟩ := psem_catS F H vs [.str i, .str j] d Q fh vw e q
    exact ⟨x, y, e1, .inr (.inl z)⟩
  · rename_i i j
    obtain ⟨x, y, e1, z⟩ := psem_catT F H vs [.tup i, .tup j] d Q fh vw e q
    exact ⟨x, y, e1, .inr (.inr (.inl z))⟩
  · rename_i i j
    obtain ⟨x, y, e1, z⟩ := (fsem_catL.pure catL_lst) F H vs [.lst i, .lst j] d Q fh vw e q
    exact ⟨x, y, e1, .inr (.inr (.inr z))⟩
  · cases e
abbrev gSub : List D → Option D := gI (fun _ _ => True) fun i j => .int (i - j)
theorem psem_sub : PSem G (r2L (rI0 fun i j => .int (i - j))) gSub := psem_I0 fun _ _ _ => .int _
instance (i j : Int) : Decidable (CMulW i j) := by unfold CMulW; infer_instance
/-- one factor below 2^64, or both together not too long -/
def CMulA (i j : Int) : Prop := CMul i j ∨ CMulW i j
instance (i j : Int) : Decidable (CMulA i j) := by unfold CMulA CMul; infer_instance
instance (i j : Int) : Decidable (CDivW i j) := by unfold CDivW; infer_instance
instance (i j : Int) : Decidable (CPow i j) := by unfold CPow; infer_instance
/-- a * b: ints; a tuple so often -/
def rMulAll (K : PySem.W.Frag) : R2 := fun x y H Q => rI CMulA (fun i j => .int (i * j)) x y H Q ∨ rRepZ K x y H Q ∨ rRep1 K x y H Q
def gMul : List D → Option D
  | [.int i, .int j] => if CMulA i j then some (.int (i * j)) else none
  | [.tup a, .int k] => if a.isEmpty = false ∧ 1 ≤ k ∧ k ≤ 1000 ∧ a.length ≤ 1000 then some (.tup (List.replicate k.toNat a).flatten) else none
  | _ => none
theorem psem_mul : PSem G (r2L (rMulAll G.K)) gMul := fun F H vs ds d Q fh vw e q => by
  unfold gMul at e
  split at e
  · rename_i i j
    split at e
    · rename_i hc
      cases e
      obtain ⟨v, w, rfl, h1, h2⟩ := vw.two
      exact ⟨v, w, rfl, .inl ⟨i, j, h1.int, h2.int, hc, fin_flat fh q (.int _)⟩⟩
    · cases e
  · rename_i ds1 k
    split at e
    · rename_i hc
      cases e
      obtain ⟨v, w, rfl, h1, h2⟩ := vw.two
      obtain ⟨a, xs, rfl, t1, r1⟩ := h1.sqT fh
      have e2 := h2.int
      subst e2
      obtain ⟨c1, c2, c3, c4⟩ := hc
      by_cases k1 : k = 1
      · subst k1
        refine ⟨_, _, rfl, .inr (.inr ⟨a, xs, rfl, rfl, t1, ?_⟩)⟩
        rcases h1 with h1 | ⟨_, _, _, _, h1⟩
        · refine fin_flat fh q ?_
          have : (List.replicate (1 : Int).toNat ds1).flatten = ds1 := by simp
          rw [this]
          exact h1
        · exact h1.elim
      refine ⟨_, _, rfl, .inr (.inl ⟨a, k, xs, rfl, rfl, t1, fun z => ?_, by omega, c3, by rw [r1.length]; exact c4, fun p o hp ho => q _ _ _ (New.obj fh hp _) (.tup (.new ho) ((r1.rep _).mono (FLe.upd _ (fh.noneOf hp))))⟩)⟩
      subst z
      cases r1
      cases c1
    · cases e
  · cases e
theorem op_mulA {X : Cx} : OpR X (binaryOp .Mult) (rI CMulA fun i j => .int (i * j)) := by
  intro pins s σ H x y v u Q I rx ry ⟨i, j, h1, h2, hc, q⟩
  rcases hc with hc | hc
  · exact op_mul pins s σ H x y v u Q I rx ry ⟨i, j, h1, h2, hc, q⟩
  · exact op_mulW pins s σ H x y v u Q I rx ry ⟨i, j, h1, h2, hc, q⟩
theorem op_mulAll {X : Cx} : OpR X (binaryOp .Mult) (rMulAll X.K) := op_mulA.or (op_repZ.or op_rep1)
abbrev gDiv : List D → Option D := gI CDivW fun i j => .int (i / j)
theorem psem_div : PSem G (r2L (rI CDivW fun i j => .int (i / j))) gDiv := psem_I fun _ _ _ => .int _
abbrev gMod : List D → Option D := gI (fun _ j => 0 < j) fun i j => .int (i % j)
theorem psem_mod : PSem G (r2L (rI (fun _ j => 0 < j) fun i j => .int (i % j))) gMod := psem_I fun _ _ _ => .int _
abbrev gPow : List D → Option D := gI CPow fun i j => .int (i ^ j.toNat)
theorem psem_pow : PSem G (r2L (rI CPow fun i j => .int (i ^ j.toNat))) gPow := psem_I fun _ _ _ => .int _
def gNeg : List D → Option D
  | [.int i] => some (.int (-i))
  | _ => none
theorem psem_neg : PSem G (fun vs H Q => ∃ x, vs = [x] ∧ rU (fun i => .int (-i)) x H Q) gNeg := fun F H vs ds d Q fh vw e q => by
  unfold gNeg at e
  split at e
  · rename_i i
    cases e
    obtain ⟨v, rfl, h1⟩ := vw.one
    exact ⟨v, rfl, i, h1.int, fin_flat fh q (.int _)⟩
  · cases e

/-! ### comparisons -/
def lexI (f : Int → Int → Bool) (g : Str → Str → Bool) : List D → Option D
  | [.int i, .int j] => some (.bl (f i j))
  | [.str i, .str j] => some (.bl (g i j))
  | _ => none
def rOrd (f : Int → Int → Bool) (g : Str → Str → Bool) : R2 := fun x y H Q => rI0 (fun i j => .bl (f i j)) x y H Q ∨ ∃ i j, x = .str i ∧ y = .str j ∧ Q (.bl (g i j)) H
theorem psem_ord {f : Int → Int → Bool} {g : Str → Str → Bool} : PSem G (r2L (rOrd f g)) (lexI f g) := fun F H vs ds d Q fh vw e q => by
  unfold lexI at e
  split at e
  · rename_i i j
    cases e
    obtain ⟨v, w, rfl, h1, h2⟩ := vw.two
    exact ⟨v, w, rfl, .inl ⟨i, j, h1.int, h2.int, fin_flat fh q (.bl _)⟩⟩
  · rename_i i j
    cases e
    obtain ⟨v, w, rfl, h1, h2⟩ := vw.two
    exact ⟨v, w, rfl, .inr ⟨i, j, h1.str, h2.str, fin_flat fh q (.bl _)⟩⟩
  · cases e
abbrev sLt (i j : Str) : Bool := decide (i.cps.toList < j.cps.toList)
abbrev sLe (i j : Str) : Bool := !decide (j.cps.toList < i.cps.toList)
abbrev gLt : List D → Option D := lexI (fun i j => decide (i < j)) sLt
abbrev gLe : List D → Option D := lexI (fun i j => decide (i ≤ j)) sLe
abbrev gGt : List D → Option D := lexI (fun i j => decide (j < i)) fun i j => sLt j i
abbrev gGe : List D → Option D := lexI (fun i j => decide (j ≤ i)) fun i j => sLe j i
theorem op_ltA {X : Cx} : OpR X (compareOp .Lt) (rOrd (fun i j => decide (i < j)) sLt) := op_lt.or op_lt_str
theorem op_leA {X : Cx} : OpR X (compareOp .LtE) (rOrd (fun i j => decide (i ≤ j)) sLe) := op_le.or op_le_str
theorem op_gtA {X : Cx} : OpR X (compareOp .Gt) (rOrd (fun i j => decide (j < i)) fun i j => sLt j i) := op_gt.or op_gt_str
theorem op_geA {X : Cx} : OpR X (compareOp .GtE) (rOrd (fun i j => decide (j ≤ i)) fun i j => sLe j i) := op_ge.or op_ge_str
/-- == at any depth -/
def eqD (a b : D) : Option Bool := (a.py).bind fun x => (b.py).bind fun y => if (SeqAt.shaped x && SeqAt.shaped y) = true then some (PyData.eqv x y) else none
def gEq : List D → Option D
  | [a, b] => (eqD a b).map .bl
  | _ => none
def gNe : List D → Option D
  | [a, b] => (eqD a b).map fun k => .bl (!k)
  | _ => none
theorem eqD_some {a b : D} {k : Bool} (h : eqD a b = some k) : ∃ x y, a.py = some x ∧ b.py = some y ∧ SeqAt.shaped x = true ∧ SeqAt.shaped y = true ∧ k = PyData.eqv x y := by
  unfold eqD at h
  cases e1 : a.py with
  | none => rw [e1] at h; cases h
  | some x =>
    cases e2 : b.py with
    | none => rw [e1, e2] at h; cases h
    | some y =>
      rw [e1, e2] at h
      simp only [Option.bind_some] at h
      split at h
      · rename_i hs
        rw [Bool.and_eq_true] at hs
        cases h
        exact ⟨x, y, rfl, rfl, hs.1, hs.2, rfl⟩
      · cases h
theorem psem_eq : PSem G (r2L (rEqD G.K)) gEq := fun F H vs ds d Q fh vw e q => by
  unfold gEq at e
  split at e
  · rename_i a b
    cases e1 : eqD a b with
    | none => rw [e1] at e; cases e
    | some k =>
      rw [e1] at e
      cases e
      obtain ⟨v, w, rfl, h1, h2⟩ := vw.two
      obtain ⟨x, y, p1, p2, s1, s2, rfl⟩ := eqD_some e1
      exact ⟨v, w, rfl, x, y, h1.dp fh p1, h2.dp fh p2, s1, s2, fin_flat fh q (.bl _)⟩
  · cases e
theorem psem_ne : PSem G (r2L (rNeD G.K)) gNe := fun F H vs ds d Q fh vw e q => by
  unfold gNe at e
  split at e
  · rename_i a b
    cases e1 : eqD a b with
    | none => rw [e1] at e; cases e
    | some k =>
      rw [e1] at e
      cases e
      obtain ⟨v, w, rfl, h1, h2⟩ := vw.two
      obtain ⟨x, y, p1, p2, s1, s2, rfl⟩ := eqD_some e1
      exact ⟨v, w, rfl, x, y, h1.dp fh p1, h2.dp fh p2, s1, s2, fin_flat fh q (.bl _)⟩
  · cases e
/-- is None, is True, is False -/
def isD : D → D → Option Bool
  | .non, .non => some true
  | .bl a, .bl b => some (decide (a = b))
  | _, .non => some false
  | _, _ => none
def gIs : List D → Option D
  | [a, b] => (isD a b).map .bl
  | _ => none
def gIsNot : List D → Option D
  | [a, b] => (isD a b).map fun k => .bl (!k)
  | _ => none
def rIsA (k : Bool) : R2 := fun x y H Q => (y = .non ∧ Q (.bl (xor k (decide (x = .non)))) H) ∨ ∃ a b, x = .bl a ∧ y = .bl b ∧ Q (.bl (xor k (decide (a = b)))) H
theorem op_isA {X : Cx} : OpR X (compareOp .Is) (rIsA false) := by
  intro pins s σ H x y v u Q I rx ry h
  rcases h with ⟨h1, h2⟩ | ⟨a, b, h1, h2, h3⟩
  · exact op_isN pins s σ H x y v u Q I rx ry ⟨h1, by simpa using h2⟩
  · exact op_is_bl pins s σ H x y v u Q I rx ry ⟨a, b, h1, h2, by simpa using h3⟩
theorem op_isNotA {X : Cx} : OpR X (compareOp .IsNot) (rIsA true) := by
  intro pins s σ H x y v u Q I rx ry h
  rcases h with ⟨h1, h2⟩ | ⟨a, b, h1, h2, h3⟩
  · exact op_notN pins s σ H x y v u Q I rx ry ⟨h1, by simpa using h2⟩
  · exact op_isnot_bl pins s σ H x y v u Q I rx ry ⟨a, b, h1, h2, by simpa using h3⟩
theorem Vw.not_non {K : PySem.W.Frag} {F H : Hp} {v : V} {d : D} (h : Vw K F H v d) (n : d ≠ .non) : v ≠ .non := fun e => by
  subst e
  rcases h with h | ⟨p, o, e, _⟩
  · cases h; exact n rfl
  · cases e
theorem isD_vw {K : PySem.W.Frag} {F H : Hp} {v w : V} {a b : D} {k : Bool} (e : isD a b = some k) (h1 : Vw K F H v a) (h2 : Vw K F H w b) : (w = .non ∧ k = decide (v = .non)) ∨ ∃ x y, v = .bl x ∧ w = .bl y ∧ k = decide (x = y) := by
  cases b with
  | non =>
    have ew := h2.non
    subst ew
    left
    refine ⟨rfl, ?_⟩
    cases a with
    | non => have ev := h1.non; subst ev; simp only [isD] at e; cases e; rfl
    | _ =>
      have ne := h1.not_non (by intro z; cases z)
      simp only [isD] at e
      cases e
      exact (decide_eq_false ne).symm
  | bl y =>
    cases a with
    | bl x => simp only [isD] at e; cases e; exact .inr ⟨x, y, h1.bl, h2.bl, rfl⟩
    | _ => simp only [isD] at e; cases e
  | _ => cases a <;> (simp only [isD] at e; cases e)
theorem psem_is : PSem G (r2L (rIsA false)) gIs := fun F H vs ds d Q fh vw e q => by
  unfold gIs at e
  split at e
  · rename_i a b
    cases e1 : isD a b with
    | none => rw [e1] at e; cases e
    | some k =>
      rw [e1] at e
      cases e
      obtain ⟨v, w, rfl, h1, h2⟩ := vw.two
      refine ⟨v, w, rfl, ?_⟩
      rcases isD_vw e1 h1 h2 with ⟨z1, z2⟩ | ⟨x, y, z1, z2, z3⟩
      · subst z2; exact .inl ⟨z1, fin_flat fh q (by simpa using Rp.bl _)⟩
      · subst z3; exact .inr ⟨x, y, z1, z2, fin_flat fh q (by simpa using Rp.bl _)⟩
  · cases e
theorem psem_isNot : PSem G (r2L (rIsA true)) gIsNot := fun F H vs ds d Q fh vw e q => by
  unfold gIsNot at e
  split at e
  · rename_i a b
    cases e1 : isD a b with
    | none => rw [e1] at e; cases e
    | some k =>
      rw [e1] at e
      cases e
      obtain ⟨v, w, rfl, h1, h2⟩ := vw.two
      refine ⟨v, w, rfl, ?_⟩
      rcases isD_vw e1 h1 h2 with ⟨z1, z2⟩ | ⟨x, y, z1, z2, z3⟩
      · subst z2; exact .inl ⟨z1, fin_flat fh q (by simpa using Rp.bl _)⟩
      · subst z3; exact .inr ⟨x, y, z1, z2, fin_flat fh q (by simpa using Rp.bl _)⟩
  · cases e
end
end Dt

set_option Elab.async false
set_option linter.all false
set_option maxRecDepth 100000
set_option maxHeartbeats 2000000
/-! Subscripts, `in`, built-in functions, by values. -/
namespace Dt
open PySem PySem.Spec PyProof.Rows L2

def keyOf : D → Option Key
  | .int i => some (.inl i)
  | .str s => some (.inr s)
  | _ => none
def dLook : List Key → List D → Key → Option D
  | k :: ks, d :: ds, x => if k = x then some d else dLook ks ds x
  | _, _, _ => none
def flatD : D → Bool
  | .non => true
  | .bl _ => true
  | .int _ => true
  | .str _ => true
  | _ => false
def eqF : D → D → Bool
  | .non, .non => true
  | .bl a, .bl b => a == b
  | .bl a, .int b => (if a then 1 else 0) == b
  | .int a, .bl b => a == (if b then 1 else 0)
  | .int a, .int b => a == b
  | .str a, .str b => a == b
  | _, _ => false
section
variable {G : Gx} {K : PySem.W.Frag} {F H : Hp}
theorem keyOf_vw {v : V} {d : D} {k : Key} (h : Vw K F H v d) (e : keyOf d = some k) : v = kV k := by
  cases d with
  | int i => cases e; exact h.int
  | str i => cases e; exact h.str
  | _ => cases e
theorem dLook_val : ∀ {kvs : List (Key × V)} {ks : List Key} {ds : List D} (k : Key), kvs.map (·.1) = ks → Rps K F (kvs.map (·.2)) ds → (valV kvs k = none ∧ dLook ks ds k = none) ∨ ∃ v d, valV kvs k = some v ∧ dLook ks ds k = some d ∧ Rp K F v d
  | [], _, _, k, e, r => by
    subst e
    cases r
    exact .inl ⟨rfl, rfl⟩
  | (k0, v0) :: kvs, _, _, k, e, r => by
    subst e
    cases r with
    | cons a b =>
      by_cases hk : k0 = k
      · exact .inr ⟨v0, _, valV_pos (p := (k0, v0)) hk, by simp only [List.map_cons, dLook]; rw [if_pos hk], a⟩
      · have e1 : valV ((k0, v0) :: kvs) k = valV kvs k := valV_neg (p := (k0, v0)) hk
        simp only [List.map_cons, dLook]
        rw [e1, if_neg hk]
        exact dLook_val k rfl b
theorem flat_vw {v : V} {d : D} (h : Rp K F v d) (f : flatD d = true) : flatV v = true := by
  cases h <;> first | rfl | cases f
theorem eqF_vw {v w : V} {d e : D} (h1 : Rp K F v d) (h2 : Rp K F w e) (f1 : flatD d = true) (f2 : flatD e = true) : eqV v w = eqF d e := by
  cases h1 <;> first
    | (cases f1; done)
    | (cases h2 <;> first | (cases f2; done) | rfl)
theorem flats : ∀ {vs : List V} {ds : List D}, Rps K F vs ds → ds.all flatD = true → vs.all flatV = true
  | _, _, .nil, _ => rfl
  | _, _, .cons a b, h => by
    rw [List.all_cons, Bool.and_eq_true] at h
    rw [List.all_cons, flat_vw a h.1, flats b h.2]
    rfl
theorem inF : ∀ {vs : List V} {ds : List D} {x : V} {d : D}, Rps K F vs ds → Rp K F x d → ds.all flatD = true → flatD d = true → inV x vs = ds.any fun y => eqF y d
  | _, _, _, _, .nil, _, _, _ => rfl
  | _, _, _, _, .cons a b, r, h, f => by
    rw [List.all_cons, Bool.and_eq_true] at h
    have ih := inF b r h.2 f
    unfold inV at ih ⊢
    rw [List.any_cons, List.any_cons, eqF_vw a r h.1 f, ih]
theorem Vw.flat {v : V} {d : D} (h : Vw K F H v d) (f : flatD d = true) : Rp K F v d := by
  rcases h with h | ⟨_, _, _, _, h⟩
  · exact h
  · cases d <;> first | exact h.elim | cases f

/-- x in y -/
def inD (x y : D) : Option Bool := match y with
  | .lst ys => if (flatD x && ys.all flatD) = true then some (ys.any fun y => eqF y x) else none
  | .tup ys => if (flatD x && ys.all flatD) = true then some (ys.any fun y => eqF y x) else none
  | .arg ys => if (flatD x && ys.all flatD) = true then some (ys.any fun y => eqF y x) else none
  | .str j => match x with
    | .str i => some (!(Builtin.Str.occurrences j i 0 j.length 1).isEmpty)
    | _ => none
  | .dct ks ds => (keyOf x).map fun k => (dLook ks ds k).isSome
  | _ => none
def gIn : List D → Option D
  | [x, y] => (inD x y).map .bl
  | _ => none
def gNotIn : List D → Option D
  | [x, y] => (inD x y).map fun k => .bl (!k)
  | _ => none
def rInA (K : PySem.W.Frag) (neg : Bool) : R2 := fun x y H Q => rIn K neg x y H Q ∨ (∃ i j, x = .str i ∧ y = .str j ∧ Q (.bl (xor neg (!(Builtin.Str.occurrences j i 0 j.length 1).isEmpty))) H) ∨
  ∃ a o, y = .ref a ∧ DGet H a x o ∧ Q (.bl (xor neg o.isSome)) H
theorem op_inA {X : Cx} (hu : X.A.units + 64 < cLine) : OpR X (compareOp .In) (rInA X.K false) := by
  intro pins s σ H x y v u Q I rx ry h
  rcases h with h | ⟨i, j, h1, h2, h3⟩ | ⟨a, o, h1, h2, h3⟩
  · exact op_in_seq pins s σ H x y v u Q I rx ry h
  · exact op_in_str pins s σ H x y v u Q I rx ry ⟨i, j, h1, h2, by simpa using h3⟩
  · subst h1
    obtain rfl : u = Value.ref a := ry
    exact d_in (by omega) I h2 rx fun s' I' => ⟨.bl o.isSome, H, I', rfl, by simpa using h3⟩
theorem op_notInA {X : Cx} (hu : X.A.units + 64 < cLine) : OpR X (compareOp .NotIn) (rInA X.K true) := by
  intro pins s σ H x y v u Q I rx ry h
  rcases h with h | ⟨i, j, h1, h2, h3⟩ | ⟨a, o, h1, h2, h3⟩
  · exact op_notIn_seq pins s σ H x y v u Q I rx ry h
  · exact op_notIn_str pins s σ H x y v u Q I rx ry ⟨i, j, h1, h2, by simpa using h3⟩
  · subst h1
    obtain rfl : u = Value.ref a := ry
    exact d_notIn (by omega) I h2 rx fun s' I' => ⟨.bl (!o.isSome), H, I', rfl, by simpa using h3⟩
theorem inD_vw {Q : VK} {neg : Bool} {x y : V} {d e : D} {k : Bool} (fh : FLe F H) (h1 : Vw K F H x d) (h2 : Vw K F H y e) (q : inD d e = some k) (z : Q (.bl (xor neg k)) H) : rInA K neg x y H Q := by
  cases e with
  | lst ys =>
    simp only [inD] at q
    split at q
    · rename_i hf
      cases q
      rw [Bool.and_eq_true] at hf
      obtain ⟨a, xs, rfl, t, r⟩ := h2.lst fh
      have rx := h1.flat hf.1
      refine .inl ⟨a, xs, rfl, .inl (SqL.of t), flat_vw rx hf.1, flats r hf.2, ?_⟩
      rw [inF r rx hf.2 hf.1]
      cases neg <;> simpa using z
    · cases q
  | tup ys =>
    simp only [inD] at q
    split at q
    · rename_i hf
      cases q
      rw [Bool.and_eq_true] at hf
      obtain ⟨a, xs, rfl, t, r⟩ := h2.sqT fh
      have rx := h1.flat hf.1
      refine .inl ⟨a, xs, rfl, .inr t, flat_vw rx hf.1, flats r hf.2, ?_⟩
      rw [inF r rx hf.2 hf.1]
      cases neg <;> simpa using z
    · cases q
  | arg ys =>
    simp only [inD] at q
    split at q
    · rename_i hf
      cases q
      rw [Bool.and_eq_true] at hf
      obtain ⟨a, xs, rfl, t, r⟩ := h2.argT fh
      have rx := h1.flat hf.1
      refine .inl ⟨a, xs, rfl, .inr t, flat_vw rx hf.1, flats r hf.2, ?_⟩
      rw [inF r rx hf.2 hf.1]
      cases neg <;> simpa using z
    · cases q
  | str j =>
    cases d with
    | str i => simp only [inD] at q; cases q; exact .inr (.inl ⟨i, j, h1.str, h2.str, z⟩)
    | _ => simp only [inD] at q; cases q
  | dct ks ds =>
    simp only [inD] at q
    cases ek : keyOf d with
    | none => rw [ek] at q; cases q
    | some k' =>
      rw [ek] at q
      cases q
      obtain ⟨a, kvs, rfl, t, e1, r⟩ := h2.dct fh
      have ex := keyOf_vw h1 ek
      subst ex
      refine .inr (.inr ⟨a, valV kvs k', rfl, .inl ⟨kvs, k', t, rfl, rfl⟩, ?_⟩)
      have z : Q (.bl (xor neg (dLook ks ds k').isSome)) H := z
      rcases dLook_val k' e1 r with ⟨z1, z2⟩ | ⟨v, d', z1, z2, _⟩
      · rw [z1]; rw [z2] at z; exact z
      · rw [z1]; rw [z2] at z; exact z
  | _ => simp only [inD] at q; cases q
theorem psem_in : PSem G (r2L (rInA G.K false)) gIn := fun F H vs ds d Q fh vw e q => by
  unfold gIn at e
  split at e
  · rename_i a b
    cases e1 : inD a b with
    | none => rw [e1] at e; cases e
    | some k =>
      rw [e1] at e
      cases e
      obtain ⟨v, w, rfl, h1, h2⟩ := vw.two
      exact ⟨v, w, rfl, inD_vw fh h1 h2 e1 (fin_flat fh q (by simpa using Rp.bl _))⟩
  · cases e
theorem psem_notIn : PSem G (r2L (rInA G.K true)) gNotIn := fun F H vs ds d Q fh vw e q => by
  unfold gNotIn at e
  split at e
  · rename_i a b
    cases e1 : inD a b with
    | none => rw [e1] at e; cases e
    | some k =>
      rw [e1] at e
      cases e
      obtain ⟨v, w, rfl, h1, h2⟩ := vw.two
      exact ⟨v, w, rfl, inD_vw fh h1 h2 e1 (fin_flat fh q (by simpa using Rp.bl _))⟩
  · cases e

/-! ### subscripts -/
def idxD (x y : D) : Option D := match x with
  | .lst xs => match y with
    | .int i => atI xs i
    | _ => none
  | .tup xs => match y with
    | .int i => atI xs i
    | _ => none
  | .str z => match y with
    | .int i => if z.length ≤ sizeLine then (atI z.cps.toList i).map fun c => .str ⟨#[c]⟩ else none
    | _ => none
  | .dct ks ds => (keyOf y).bind fun k => dLook ks ds k
  | _ => none
def gIdx : List D → Option D
  | [x, y] => idxD x y
  | _ => none
theorem atI_rps {vs : List V} {ds : List D} {i : Int} {d : D} (r : Rps K F vs ds) (h : atI ds i = some d) : ∃ v, atI vs i = some v ∧ Rp K F v d := by
  unfold atI at h ⊢
  rw [r.length]
  cases e : ixN ds.length i with
  | none => rw [e] at h; cases h
  | some j =>
    rw [e] at h
    exact r.get h
def rIxA (K : PySem.W.Frag) : R2 := fun x y H Q => rIx K x y H Q ∨ ∃ a v, x = .ref a ∧ DGet H a y (some v) ∧ Q v H
theorem psem_idx : PSem G (r2L (rIxA G.K)) gIdx := fun F H vs ds d Q fh vw e q => by
  unfold gIdx at e
  split at e
  · rename_i x y
    obtain ⟨v, w, rfl, h1, h2⟩ := vw.two
    refine ⟨v, w, rfl, ?_⟩
    cases x with
    | lst xs =>
      cases y with
      | int i =>
        obtain ⟨a, zs, rfl, t, r⟩ := h1.lst fh
        obtain ⟨u, e1, rp⟩ := atI_rps r e
        exact .inl (.inl ⟨a, zs, i, u, rfl, h2.int, SqL.of t, e1, fin_flat fh q rp⟩)
      | _ => simp only [idxD] at e; cases e
    | tup xs =>
      cases y with
      | int i =>
        obtain ⟨a, zs, rfl, t, r⟩ := h1.sqT fh
        obtain ⟨u, e1, rp⟩ := atI_rps r e
        exact .inl (.inr (.inl ⟨a, zs, i, u, rfl, h2.int, t, e1, fin_flat fh q rp⟩))
      | _ => simp only [idxD] at e; cases e
    | str z =>
      cases y with
      | int i =>
        simp only [idxD] at e
        split at e
        · rename_i hz
          cases e1 : atI z.cps.toList i with
          | none => rw [e1] at e; cases e
          | some c => rw [e1] at e; cases e; exact .inl (.inr (.inr ⟨z, i, c, h1.str, h2.int, hz, e1, fin_flat fh q (.str _)⟩))
        · cases e
      | _ => simp only [idxD] at e; cases e
    | dct ks ds' =>
      simp only [idxD] at e
      cases ek : keyOf y with
      | none => rw [ek] at e; cases e
      | some k =>
        rw [ek] at e
        have e : dLook ks ds' k = some d := e
        obtain ⟨a, kvs, rfl, t, e1, r⟩ := h1.dct fh
        have ew := keyOf_vw h2 ek
        subst ew
        rcases dLook_val k e1 r with ⟨_, z2⟩ | ⟨u, d', z1, z2, rp⟩
        · rw [z2] at e; cases e
        · rw [z2] at e; cases e; exact .inr ⟨a, u, rfl, .inl ⟨kvs, k, t, rfl, z1.symm⟩, fin_flat fh q rp⟩
    | _ => simp only [idxD] at e; cases e
  · cases e

/-! ### built-in functions -/
def r1L (r : V → Hp → VK → Prop) : RL := fun vs H Q => ∃ x, vs = [x] ∧ r x H Q
def gLen : List D → Option D
  | [.str s] => if s.length ≤ sizeLine then some (.int s.length) else none
  | [.tup xs] => some (.int xs.length)
  | [.lst xs] => some (.int xs.length)
  | [.dct ks _] => some (.int ks.length)
  | _ => none
def rLenA (K : PySem.W.Frag) : RL := fun xs H Q => (∃ x n, xs = [x] ∧ LenV K x H n ∧ Q (.int n) H) ∨ ∃ a kvs, xs = [V.ref a] ∧ Rd H a (.dK kvs) ∧ Q (.int kvs.length) H
theorem call_lenA {X : Cx} : CallR X (.builtin "len") (rLenA X.K) := by
  intro pins s σ H xs us Q I r h
  rcases h with h | ⟨a, kvs, rfl, ha, q⟩
  · exact call_len pins s σ H xs us Q I r h
  · obtain ⟨u, rfl, ru⟩ := vals1 r
    cases ru
    exact d_len I ha fun t s' I' => ⟨.int kvs.length, H, I', ⟨t, rfl⟩, q⟩
theorem psem_len : PSem G (rLenA G.K) gLen := fun F H vs ds d Q fh vw e q => by
  unfold gLen at e
  split at e
  · split at e
    · rename_i z hz
      cases e
      obtain ⟨v, rfl, h⟩ := vw.one
      have ev := h.str
      subst ev
      exact .inl ⟨_, _, rfl, ⟨hz, rfl⟩, fin_flat fh q (.int _)⟩
    · cases e
  · cases e
    obtain ⟨v, rfl, h⟩ := vw.one
    obtain ⟨a, xs, rfl, t, r⟩ := h.sqT fh
    exact .inl ⟨_, _, rfl, .inr ⟨xs, t, r.length.symm⟩, fin_flat fh q (.int _)⟩
  · cases e
    obtain ⟨v, rfl, h⟩ := vw.one
    obtain ⟨a, xs, rfl, t, r⟩ := h.lst fh
    exact .inl ⟨_, _, rfl, .inl ⟨xs, SqL.of t, r.length.symm⟩, fin_flat fh q (.int _)⟩
  · cases e
    obtain ⟨v, rfl, h⟩ := vw.one
    obtain ⟨a, kvs, rfl, t, e1, r⟩ := h.dct fh
    refine .inr ⟨a, kvs, rfl, t, fin_flat fh q ?_⟩
    rw [← e1, List.length_map]
    exact .int _
  · cases e
def gInt : List D → Option D
  | [.int i] => some (.int i)
  | [.bl b] => some (.int (if b then 1 else 0))
  | _ => none
theorem psem_int : PSem G (fun xs H Q => (∃ i, xs = [V.int i] ∧ Q (.int i) H) ∨ ∃ k, xs = [V.bl k] ∧ Q (.int (if k then 1 else 0)) H) gInt := fun F H vs ds d Q fh vw e q => by
  unfold gInt at e
  split at e
  · cases e
    obtain ⟨v, rfl, h⟩ := vw.one
    exact .inl ⟨_, by rw [h.int], fin_flat fh q (.int _)⟩
  · cases e
    obtain ⟨v, rfl, h⟩ := vw.one
    exact .inr ⟨_, by rw [h.bl], fin_flat fh q (.int _)⟩
  · cases e
def gBool : List D → Option D
  | [.int i] => some (.bl (i != 0))
  | [.bl b] => some (.bl b)
  | _ => none
theorem psem_bool : PSem G (fun xs H Q => (∃ i, xs = [V.int i] ∧ Q (.bl (i != 0)) H) ∨ ∃ k, xs = [V.bl k] ∧ Q (.bl k) H) gBool := fun F H vs ds d Q fh vw e q => by
  unfold gBool at e
  split at e
  · cases e
    obtain ⟨v, rfl, h⟩ := vw.one
    exact .inl ⟨_, by rw [h.int], fin_flat fh q (.bl _)⟩
  · cases e
    obtain ⟨v, rfl, h⟩ := vw.one
    exact .inr ⟨_, by rw [h.bl], fin_flat fh q (.bl _)⟩
  · cases e
def gAbs : List D → Option D
  | [.int i] => some (.int (if i < 0 then -i else i))
  | _ => none
theorem psem_abs : PSem G (fun xs H Q => ∃ i, xs = [V.int i] ∧ Q (.int (if i < 0 then -i else i)) H) gAbs := fun F H vs ds d Q fh vw e q => by
  unfold gAbs at e
  split at e
  · cases e
    obtain ⟨v, rfl, h⟩ := vw.one
    exact ⟨_, by rw [h.int], fin_flat fh q (.int _)⟩
  · cases e
def gMax2 : List D → Option D
  | [.int i, .int j] => some (.int (if j > i then j else i))
  | _ => none
theorem psem_max2 : PSem G (fun xs H Q => ∃ i j, xs = [V.int i, V.int j] ∧ Q (.int (if j > i then j else i)) H) gMax2 := fun F H vs ds d Q fh vw e q => by
  unfold gMax2 at e
  split at e
  · cases e
    obtain ⟨v, w, rfl, h1, h2⟩ := vw.two
    exact ⟨_, _, by rw [h1.int, h2.int], fin_flat fh q (.int _)⟩
  · cases e
def gMin2 : List D → Option D
  | [.int i, .int j] => some (.int (if j < i then j else i))
  | _ => none
theorem psem_min2 : PSem G (fun xs H Q => ∃ i j, xs = [V.int i, V.int j] ∧ Q (.int (if j < i then j else i)) H) gMin2 := fun F H vs ds d Q fh vw e q => by
  unfold gMin2 at e
  split at e
  · cases e
    obtain ⟨v, w, rfl, h1, h2⟩ := vw.two
    exact ⟨_, _, by rw [h1.int, h2.int], fin_flat fh q (.int _)⟩
  · cases e
def intsOf : List D → Option (List Int)
  | [] => some []
  | .int i :: ds => (intsOf ds).map fun r => i :: r
  | _ => none
theorem ints_vw : ∀ {vs : List V} {ds : List D} {ns : List Int}, Rps K F vs ds → intsOf ds = some ns → vs = ns.map V.int
  | _, _, _, .nil, e => by simp only [intsOf] at e; cases e; rfl
  | _, _, _, .cons (d := d) (ds := ds) a b, e => by
    cases a with
    | int i =>
      simp only [intsOf] at e
      cases e1 : intsOf ds with
      | none => rw [e1] at e; cases e
      | some r => rw [e1] at e; cases e; rw [List.map_cons, ints_vw b e1]
    | _ => simp only [intsOf] at e; cases e
def blsOf : List D → Option (List Bool)
  | [] => some []
  | .bl i :: ds => (blsOf ds).map fun r => i :: r
  | _ => none
theorem bls_vw : ∀ {vs : List V} {ds : List D} {ns : List Bool}, Rps K F vs ds → blsOf ds = some ns → vs = ns.map V.bl
  | _, _, _, .nil, e => by simp only [blsOf] at e; cases e; rfl
  | _, _, _, .cons (d := d) (ds := ds) a b, e => by
    cases a with
    | bl i =>
      simp only [blsOf] at e
      cases e1 : blsOf ds with
      | none => rw [e1] at e; cases e
      | some r => rw [e1] at e; cases e; rw [List.map_cons, bls_vw b e1]
    | _ => simp only [blsOf] at e; cases e
def gSum : List D → Option D
  | [.lst xs] => (intsOf xs).map fun ns => .int ns.sum
  | _ => none
theorem psem_sum : PSem G (rSum G.K) gSum := fun F H vs ds d Q fh vw e q => by
  unfold gSum at e
  split at e
  · rename_i xs
    cases e1 : intsOf xs with
    | none => rw [e1] at e; cases e
    | some ns =>
      rw [e1] at e
      cases e
      obtain ⟨v, rfl, h⟩ := vw.one
      obtain ⟨a, zs, rfl, t, r⟩ := h.lst fh
      have ez := ints_vw r e1
      subst ez
      exact ⟨a, ns, rfl, SqL.of t, fin_flat fh q (.int _)⟩
  · cases e
def gAll : List D → Option D
  | [.lst xs] => (blsOf xs).map fun ns => .bl (ns.all id)
  | _ => none
theorem psem_all : PSem G (rAll G.K) gAll := fun F H vs ds d Q fh vw e q => by
  unfold gAll at e
  split at e
  · rename_i xs
    cases e1 : blsOf xs with
    | none => rw [e1] at e; cases e
    | some ns =>
      rw [e1] at e
      cases e
      obtain ⟨v, rfl, h⟩ := vw.one
      obtain ⟨a, zs, rfl, t, r⟩ := h.lst fh
      have ez := bls_vw r e1
      subst ez
      exact ⟨a, ns, rfl, SqL.of t, fin_flat fh q (.bl _)⟩
  · cases e
def gAny : List D → Option D
  | [.lst xs] => (blsOf xs).map fun ns => .bl (ns.any id)
  | _ => none
theorem psem_any : PSem G (rAny G.K) gAny := fun F H vs ds d Q fh vw e q => by
  unfold gAny at e
  split at e
  · rename_i xs
    cases e1 : blsOf xs with
    | none => rw [e1] at e; cases e
    | some ns =>
      rw [e1] at e
      cases e
      obtain ⟨v, rfl, h⟩ := vw.one
      obtain ⟨a, zs, rfl, t, r⟩ := h.lst fh
      have ez := bls_vw r e1
      subst ez
      exact ⟨a, ns, rfl, SqL.of t, fin_flat fh q (.bl _)⟩
  · cases e
/-- a key as data -/
def keyD : Key → D
  | .inl i => .int i
  | .inr z => .str z
theorem rp_key (k : Key) : Rp K F (kV k) (keyD k) := by
  cases k with
  | inl i => exact .int i
  | inr z => exact .str z
theorem rps_keys : ∀ {kvs : List (Key × V)}, Rps K F (kvs.map fun kv => kV kv.1) ((kvs.map (·.1)).map keyD)
  | [] => .nil
  | kv :: kvs => .cons (rp_key kv.1) rps_keys
def rListA (K : PySem.W.Frag) : List V → Hp → VK → Prop := fun xs H Q => (∃ p ys, xs = [V.ref p] ∧ (SqL K H p ys ∨ SqT K H p ys) ∧ ∀ l, H l = none → Q (.ref l) (upd H l (.lst ys))) ∨
  ∃ (a : Addr) (kvs : List (Key × V)), xs = [V.ref a] ∧ Rd H a (.dK kvs) ∧ ∀ p, H p = none → Q (.ref p) (upd H p (.lst (kvs.map fun kv => kV kv.1)))
theorem call_listA {X : Cx} (calm : X.calm = true) : CallR X (.type "list") (rListA X.K) := by
  intro pins s σ H xs us Q I r h
  rcases h with h | h
  · exact call_list_of pins s σ H xs us Q I r h
  · exact call_listD calm pins s σ H xs us Q I r h
/-- list(..): a new list -/
def gList : List D → Option D
  | [.lst xs] => some (.lst xs)
  | [.tup xs] => some (.lst xs)
  | [.scr ns] => some (.lst (ns.map .int))
  | [.dct ks _] => some (.lst (ks.map keyD))
  | _ => none
theorem rps_ints : ∀ ns : List Int, Rps K F (ns.map V.int) (ns.map D.int)
  | [] => .nil
  | n :: ns => .cons (.int n) (rps_ints ns)
theorem fsem_list : FSem G (rListA G.K) gList := fun F H vs ds d Q fh vw e q => by
  unfold gList at e
  split at e
  · cases e
    obtain ⟨v, rfl, h⟩ := vw.one
    obtain ⟨a, zs, rfl, t, r⟩ := h.lst fh
    exact .inl ⟨a, zs, rfl, .inl (SqL.of t), fun l hl => q l _ hl ⟨_, rfl, r⟩⟩
  · cases e
    obtain ⟨v, rfl, h⟩ := vw.one
    obtain ⟨a, zs, rfl, t, r⟩ := h.sqT fh
    exact .inl ⟨a, zs, rfl, .inr t, fun l hl => q l _ hl ⟨_, rfl, r⟩⟩
  · rename_i ns
    cases e
    obtain ⟨v, rfl, h⟩ := vw.one
    rcases h with h | ⟨_, _, _, _, h⟩
    · cases h with
      | scr t => exact .inl ⟨_, _, rfl, .inl (fh.sqL t), fun l hl => q l _ hl ⟨_, rfl, rps_ints ns⟩⟩
    · exact h.elim
  · cases e
    obtain ⟨v, rfl, h⟩ := vw.one
    obtain ⟨a, kvs, rfl, rd, rfl, r⟩ := h.dct fh
    exact .inr ⟨a, kvs, rfl, rd, fun l hl => q l _ hl ⟨_, rfl, rps_keys⟩⟩
  · cases e
def gTuple : List D → Option D
  | [.lst xs] => some (.tup xs)
  | [.tup xs] => some (.tup xs)
  | _ => none
theorem psem_tuple : PSem G (fun xs H Q => ∃ p ys, xs = [V.ref p] ∧ ((SqL G.K H p ys ∧ NewT H ys Q) ∨ (SqT G.K H p ys ∧ Q (.ref p) H))) gTuple := fun F H vs ds d Q fh vw e q => by
  unfold gTuple at e
  split at e
  · cases e
    obtain ⟨v, rfl, h⟩ := vw.one
    obtain ⟨a, zs, rfl, t, r⟩ := h.lst fh
    exact ⟨a, zs, rfl, .inl ⟨SqL.of t, fun l o hl ho => q _ _ _ (New.obj fh hl _) (.tup (.new ho) (r.mono (FLe.upd _ (fh.noneOf hl))))⟩⟩
  · cases e
    obtain ⟨v, rfl, h⟩ := vw.one
    obtain ⟨a, zs, rfl, t, r⟩ := h.sqT fh
    rcases h with h | ⟨_, _, _, _, h⟩
    · exact ⟨a, zs, rfl, .inr ⟨t, fin_flat fh q h⟩⟩
    · exact h.elim
  · cases e

/-! ### slices -/
def rSlAll (K : PySem.W.Frag) : V → Option Int → Option Int → Hp → VK → Prop := fun x lo hi H Q => rSlZ K x lo hi H Q ∨ (rSlS x lo hi H Q ∨ rSlL K x lo hi H Q)
theorem sl_all {X : Cx} : SlR X (rSlAll X.K) := sl_tupZ.or (sl_str.or sl_list)
def cutD (xs : List D) (lo hi : Option Int) : List D := (xs.drop (HT.sIx xs.length 0 lo)).take (HT.sIx xs.length xs.length hi - HT.sIx xs.length 0 lo)
def sliceD (x : D) (lo hi : Option Int) : Option D := match x with
  | .tup xs => some (.tup (cutD xs lo hi))
  | .lst xs => some (.lst (cutD xs lo hi))
  | .str z => if z.length ≤ sizeLine then some (.str (cutS z lo hi)) else none
  | _ => none
theorem cut_rps {vs : List V} {ds : List D} (r : Rps K F vs ds) (lo hi : Option Int) : Rps K F (cutV vs lo hi) (cutD ds lo hi) := by
  unfold cutV cutD
  rw [r.length]
  exact (r.drop _).take _
theorem slice_vw {x : V} {d e : D} {lo hi : Option Int} {Q : VK} (fh : FLe F H) (h : Vw G.K F H x d) (s : sliceD d lo hi = some e) (q : ∀ v H' F', New F H F' H' → Rp G.K F' v e → Q v H') : rSlAll G.K x lo hi H Q := by
  cases d with
  | tup xs =>
    cases s
    obtain ⟨a, zs, rfl, t, r⟩ := h.sqT fh
    refine .inl ⟨a, zs, rfl, t, fun z => ?_, fun z p o hp ho => q _ _ _ (New.obj fh hp _) (.tup (.new ho) ((cut_rps r lo hi).mono (FLe.upd _ (fh.noneOf hp))))⟩
    have ec : cutD xs lo hi = xs := by
      unfold cutD
      rw [← r.length, z.1, z.2]
      simp [r.length]
    rw [ec] at q
    rcases h with h | ⟨_, _, _, _, h⟩
    · exact fin_flat fh q h
    · exact h.elim
  | lst xs =>
    cases s
    obtain ⟨a, zs, rfl, t, r⟩ := h.lst fh
    exact .inr (.inr ⟨a, zs, rfl, SqL.of t, fun p hp => q _ _ _ (New.obj fh hp _) (.lst upd_same ((cut_rps r lo hi).mono (FLe.upd _ (fh.noneOf hp))))⟩)
  | str z =>
    simp only [sliceD] at s
    split at s
    · rename_i hz
      cases s
      exact .inr (.inl ⟨z, h.str, hz, fin_flat fh q (.str _)⟩)
    · cases s
  | _ => simp only [sliceD] at s; cases s

/-! ### isinstance -/
def tyN : D → String
  | .non => "NoneType"
  | .bl _ => "bool"
  | .int _ => "int"
  | .str _ => "str"
  | .tup _ => "tuple"
  | .lst _ => "list"
  | .dct _ _ => "dict"
  | .scr _ => "list"
  | .arg _ => "tuple"
  | .fn _ => "NoneType"
  | .exn _ => "NoneType"
  | .nd _ _ => "dict"
/-- a def as a value: its type is not asked -/
def D.isFn : D → Bool
  | .fn _ => true
  | .exn _ => true
  | .nd _ _ => true
  | _ => false
theorem ty_vw {v : V} {d : D} (fh : FLe F H) (h : Vw K F H v d) (hd : d.isFn = false) : TyX K H v (.type (tyN d)) := by
  rcases h with h | ⟨p, o, rfl, h1, h2⟩
  · cases h with
    | fn _ => cases hd
    | exn _ => cases hd
    | nd _ _ _ _ => cases hd
    | non => exact .base .non
    | bl b => exact .base (.bl b)
    | int b => exact .base (.int b)
    | str b => exact .base (.str b)
    | arg t r =>
      rcases fh.sqT t with (t | ⟨o, t⟩) | ⟨o, its, n, hk, hc, _⟩
      · exact .base (.tup t)
      · exact .fTuple t
      · exact .kTuple hk hc
    | tup t r =>
      rcases fh.sqT (t.sq (K := K)) with (t | ⟨o, t⟩) | ⟨o, its, n, hk, hc, _⟩
      · exact .base (.tup t)
      · exact .fTuple t
      · exact .kTuple hk hc
    | lst t r => exact .base (.lst (fh _ _ t))
    | dct t r => exact .fDict (fh _ _ t)
    | scr t =>
      rcases fh.sqL t with (t | ⟨o, t⟩) | ⟨o, its, n, hk, hc, _⟩
      · exact .base (.lst t)
      · exact .base (.frz t)
      · exact .kList hk hc
  · cases d with
    | lst ds => obtain ⟨xs, rfl, _⟩ := h2; exact .base (.lst h1)
    | dct ks ds => obtain ⟨kvs, rfl, _⟩ := h2; exact .base (.dK h1)
    | nd ks ds => cases hd
    | _ => exact h2.elim
end
end Dt

set_option Elab.async false
set_option linter.all false
set_option maxRecDepth 100000
set_option maxHeartbeats 2000000
/-! The judgements' rules: expressions and tests. -/
namespace Dt
open PySem PySem.Spec PyProof.Rows L2

section
variable {K : PySem.W.Frag} {ex : Exx} {X : Cx} {W : WX} {σ : L2.St} {H : Hp}
abbrev GK (X : Cx) (ex : Exx) : Gx := ⟨X.K, ex⟩

theorem tO_mono {G : Gx} {s : SO} {Q Q' : VK} (h : tO G W s σ H Q) (w : ∀ v H, Q v H → Q' v H) : tO G W s σ H Q' := by
  obtain ⟨ρ, F, Rv, io, rel, q⟩ := h
  refine ⟨ρ, F, Rv, io, rel, ?_⟩
  revert q
  cases s ρ with
  | stuck => exact fun q => q
  | exc x ρ' => exact fun q => q
  | ok o ρ' => exact fun q v H' F' le rel' r => w v H' (q v H' F' le rel' r)
theorem tE_mono {G : Gx} {s : SE} {Q Q' : VK} (h : tE G W s σ H Q) (w : ∀ v H, Q v H → Q' v H) : tE G W s σ H Q' := by
  obtain ⟨ρ, F, Rv, io, rel, q⟩ := h
  refine ⟨ρ, F, Rv, io, rel, ?_⟩
  revert q
  cases s ρ with
  | stuck => exact fun q => q
  | exc x ρ' => exact fun q => q
  | ok o ρ' => exact fun q v H' F' le rel' r => w v H' (q v H' F' le rel' r)
theorem two_ops {G : Gx} {r : R2} {g : List D → Option D} {sa sb : SO} {Q : VK} (hg : PSem G (r2L r) g) (h : tE G W (sOps g (b2 sa sb)) σ H Q) : tO G W sa σ H fun x H1 => tO G W sb σ H1 fun y H2 => r x y H2 Q :=
  tO_mono (two_core (a := .Name Str.empty ⟨0, 0, 0, 0⟩) (b := .Name Str.empty ⟨0, 0, 0, 0⟩) (ops_core hg h)) fun x H1 z => tO_mono z fun y H2 ⟨x', y', e, z'⟩ => by cases e; exact z'
theorem two_opsF {G : Gx} {r : R2} {g : List D → Option D} {sa sb : SO} {Q : VK} (hg : FSem G (r2L r) g) (h : tF G W (sOps g (b2 sa sb)) σ H Q) : tO G W sa σ H fun x H1 => tO G W sb σ H1 fun y H2 => r x y H2 Q :=
  tO_mono (two_core (a := .Name Str.empty ⟨0, 0, 0, 0⟩) (b := .Name Str.empty ⟨0, 0, 0, 0⟩) (opsF_core hg h)) fun x H1 z => tO_mono z fun y H2 ⟨x', y', e, z'⟩ => by cases e; exact z'
theorem one_ops {G : Gx} {r : V → Hp → VK → Prop} {g : List D → Option D} {sa : SO} {Q : VK} (hg : PSem G (r1L r) g) (h : tE G W (sOps g (b1 sa)) σ H Q) : tO G W sa σ H fun x H1 => r x H1 Q :=
  tO_mono (one_core (ops_core hg h)) fun x H1 ⟨x', e, z'⟩ => by cases e; exact z'

variable {a b c : Expr} {pos : Pos} {sa sb sc : SO}
/-- a op b -/
theorem d_op {op : Operator} {r : R2} {g : List D → Option D} (ho : OpR X (binaryOp op) r) (hg : PSem (GK X ex) (r2L r) g) (ha : DO (GK X ex) X W a sa) (hb : DO (GK X ex) X W b sb) : DE (GK X ex) X W (.BinOp a op b pos) (sOps g (b2 sa sb)) :=
  wkE (pe_op ho ha hb) fun σ H Q h => two_ops hg h
theorem d_opF {op : Operator} {r : R2} {g : List D → Option D} (ho : OpR X (binaryOp op) r) (hg : FSem (GK X ex) (r2L r) g) (ha : DO (GK X ex) X W a sa) (hb : DO (GK X ex) X W b sb) : DF (GK X ex) X W (.BinOp a op b pos) (sOps g (b2 sa sb)) :=
  wkE (pe_op ho ha hb) fun σ H Q h => two_opsF hg h
theorem d_add (ha : DO (GK X ex) X W a sa) (hb : DO (GK X ex) X W b sb) : DE (GK X ex) X W (.BinOp a .Add b pos) (sOps gAdd (b2 sa sb)) := d_op op_addAll psem_add ha hb
theorem d_addF (ha : DO (GK X ex) X W a sa) (hb : DO (GK X ex) X W b sb) : DF (GK X ex) X W (.BinOp a .Add b pos) (sOps gCatL (b2 sa sb)) := d_opF op_cat fsem_catL ha hb
theorem d_sub (ha : DO (GK X ex) X W a sa) (hb : DO (GK X ex) X W b sb) : DE (GK X ex) X W (.BinOp a .Sub b pos) (sOps gSub (b2 sa sb)) := d_op op_sub psem_sub ha hb
theorem d_mul (ha : DO (GK X ex) X W a sa) (hb : DO (GK X ex) X W b sb) : DE (GK X ex) X W (.BinOp a .Mult b pos) (sOps gMul (b2 sa sb)) := d_op op_mulAll psem_mul ha hb
theorem d_div (ha : DO (GK X ex) X W a sa) (hb : DO (GK X ex) X W b sb) : DE (GK X ex) X W (.BinOp a .FloorDiv b pos) (sOps gDiv (b2 sa sb)) := d_op op_fdivW psem_div ha hb
theorem d_mod (ha : DO (GK X ex) X W a sa) (hb : DO (GK X ex) X W b sb) : DE (GK X ex) X W (.BinOp a .Mod b pos) (sOps gMod (b2 sa sb)) := d_op op_mod psem_mod ha hb
theorem d_pow (ha : DO (GK X ex) X W a sa) (hb : DO (GK X ex) X W b sb) : DE (GK X ex) X W (.BinOp a .Pow b pos) (sOps gPow (b2 sa sb)) := d_op op_pow psem_pow ha hb
theorem d_neg (ha : DO (GK X ex) X W a sa) : DE (GK X ex) X W (.UnaryOp .USub a pos) (sOps gNeg (b1 sa)) :=
  wkE (pe_un un_neg ha) fun σ H Q h => one_ops (r := rU fun i => .int (-i)) psem_neg h

/-! ### comparisons, as values and as tests -/
def sTst (s : SE) : ST := fun ρ => (s ρ).bind fun d ρ' => match d with
  | .bl k => .ok k ρ'
  | _ => .stuck
theorem tst_core {G : Gx} {s : SE} {Q : Bool → Hp → Prop} (h : tT G W (sTst s) σ H Q) : tE G W s σ H fun x H' => ∃ k, x = .bl k ∧ Q k H' := by
  obtain ⟨ρ, F, Rv, io, rel, q⟩ := h
  refine ⟨ρ, F, Rv, io, rel, ?_⟩
  unfold sTst at q
  cases e : s ρ with
  | stuck => rw [e] at q; exact q.elim
  | exc x ρ' => rw [e] at q; exact q
  | ok d ρ' =>
    rw [e, R.bind_ok] at q
    cases d with
    | bl k => intro v H' F' le rel' r; cases r; exact ⟨k, rfl, q H' F' le rel'⟩
    | _ => exact q.elim
theorem d_cmp {op : CmpOp} {r : R2} {g : List D → Option D} (ho : OpR X (compareOp op) r) (hg : PSem (GK X ex) (r2L r) g) (ha : DO (GK X ex) X W a sa) (hb : DO (GK X ex) X W b sb) (hm : behindInMarks op b = false) : DE (GK X ex) X W (.Compare a [op] [b] pos) (sOps g (b2 sa sb)) :=
  wkE (pe_cmpR ho ha hb hm) fun σ H Q h => two_ops hg h
theorem d_tcmp {op : CmpOp} {r : R2} {g : List D → Option D} (ho : OpR X (compareOp op) r) (hg : PSem (GK X ex) (r2L r) g) (ha : DO (GK X ex) X W a sa) (hb : DO (GK X ex) X W b sb) (hm : behindInMarks op b = false) : DT (GK X ex) X W (.Compare a [op] [b] pos) (sTst (sOps g (b2 sa sb))) :=
  wkT (pt_cmpR ho ha hb hm) fun σ H Q h => two_ops hg (tst_core h)
/-- a op1 b op2 c; b is a value that is looked at once -/
def sChain (g g' : List D → Option D) (sa sb sc : SO) : SE := fun ρ => (sa ρ).bind fun x ρ1 => (sb ρ1).bind fun y ρ2 => (ofO ((getAll ρ2 [x, y]).bind g) ρ2).bind fun z ρ2 => match z with
  | .bl true => (sc ρ2).bind fun w ρ3 => ofO ((getAll ρ3 [y, w]).bind g') ρ3
  | .bl false => .ok (.bl false) ρ2
  | _ => .stuck
theorem chain_core {G : Gx} {r r' : R2} {g g' : List D → Option D} (hg : PSem G (r2L r) g) (hg' : PSem G (r2L r') g') {Q : VK} (h : tE G W (sChain g g' sa sb sc) σ H Q) : tChain r r' (tO G W sa) (tO G W sb) (tO G W sc) σ H Q := by
  obtain ⟨ρ, F, Rv, io, rel, q⟩ := h
  refine ⟨ρ, F, Rv, io, rel, ?_⟩
  unfold sChain at q
  cases e : sa ρ with
  | stuck => rw [e] at q; exact q.elim
  | exc x ρ' => rw [e] at q; exact q
  | ok x ρ1 =>
    rw [e, R.bind_ok] at q
    refine fun v H1 F1 le1 rel1 ok1 => ⟨ρ1, F1, Rv, io, rel1, ?_⟩
    cases e2 : sb ρ1 with
    | stuck => rw [e2] at q; exact q.elim
    | exc x ρ' => rw [e2] at q; exact XPost.le q le1
    | ok y ρ2 =>
      rw [e2, R.bind_ok] at q
      refine fun w H2 F2 le2 rel2 ok2 => ?_
      cases e3 : getAll ρ2 [x, y] with
      | none => rw [e3] at q; exact q.elim
      | some ds =>
        rw [e3, Option.bind_some] at q
        cases e4 : g ds with
        | none => rw [e4] at q; exact q.elim
        | some z =>
          rw [e4] at q
          have vw := rel2.views (.cons (ok1.mono le2) (.cons ok2 .nil)) e3
          obtain ⟨_, _, e5, z5⟩ := hg F2 H2 [v, w] ds z (fun zv H3 => ∃ k, zv = .bl k ∧ if k = true then tO G W sc σ H3 (fun w' H4 => r' w w' H4 Q) else Q (.bl false) H3) rel2.fH vw e4 (by
            intro zv H3 F3 n rp
            cases z with
            | bl k =>
              cases rp
              refine ⟨k, rfl, ?_⟩
              have rel3 := rel2.after n
              cases k with
              | false => exact iteF (q _ H3 F3 ((le1.trans le2).trans n.f) rel3 (.bl false))
              | true =>
                refine iteT ⟨ρ2, F3, Rv, io, rel3, ?_⟩
                simp only [ofO, R.bind_ok] at q
                cases e6 : sc ρ2 with
                | stuck => rw [e6] at q; exact q.elim
                | exc x ρ' => rw [e6] at q; exact XPost.le q ((le1.trans le2).trans n.f)
                | ok u ρ3 =>
                  rw [e6, R.bind_ok] at q
                  refine fun w' H4 F4 le4 rel4 ok4 => ?_
                  cases e7 : getAll ρ3 [y, u] with
                  | none => rw [e7] at q; exact q.elim
                  | some ds' =>
                    rw [e7, Option.bind_some] at q
                    cases e8 : g' ds' with
                    | none => rw [e8] at q; exact q.elim
                    | some z' =>
                      rw [e8] at q
                      have vw' := rel4.views (.cons (ok2.mono (n.f.trans le4)) (.cons ok4 .nil)) e7
                      obtain ⟨_, _, e9, z9⟩ := hg' F4 H4 [w, w'] ds' z' Q rel4.fH vw' e8 fun zv H5 F5 n5 rp5 => q zv H5 F5 ((((le1.trans le2).trans n.f).trans le4).trans n5.f) (rel4.after n5) rp5
                      cases e9; exact z9
            | _ => exact q.elim)
          cases e5; exact z5
theorem d_chain {op op' : CmpOp} {r r' : R2} {g g' : List D → Option D} (ho : OpR X (compareOp op) r) (ho' : OpR X (compareOp op') r') (hg : PSem (GK X ex) (r2L r) g) (hg' : PSem (GK X ex) (r2L r') g') (ha : DO (GK X ex) X W a sa) (hb : DO (GK X ex) X W b sb) (hc : DO (GK X ex) X W c sc)
    (hm : lastMarks [op, op'] [b, c] = false := by with_unfolding_all rfl) : DE (GK X ex) X W (.Compare a [op, op'] [b, c] pos) (sChain g g' sa sb sc) :=
  wkE (pe_chain ho ho' ha hb hc hm) fun σ H Q h => chain_core hg hg' h
theorem d_tchain {op op' : CmpOp} {r r' : R2} {g g' : List D → Option D} (ho : OpR X (compareOp op) r) (ho' : OpR X (compareOp op') r') (hg : PSem (GK X ex) (r2L r) g) (hg' : PSem (GK X ex) (r2L r') g') (ha : DO (GK X ex) X W a sa) (hb : DO (GK X ex) X W b sb) (hc : DO (GK X ex) X W c sc)
    (hm : lastMarks [op, op'] [b, c] = false := by with_unfolding_all rfl) : DT (GK X ex) X W (.Compare a [op, op'] [b, c] pos) (sTst (sChain g g' sa sb sc)) :=
  wkT (pt_chain ho ho' ha hb hc hm) fun σ H Q h => chain_core hg hg' (tst_core h)

/-! ### truth -/
def D.truth : D → Option Bool
  | .non => some false
  | .bl b => some b
  | .int i => some (i != 0)
  | .str s => if s.length ≤ sizeLine then some ((s.length : Int) != 0) else none
  | .tup xs => some (!xs.isEmpty)
  | .lst xs => some (!xs.isEmpty)
  | _ => none
theorem isEmpty_rps {F : Hp} {vs : List V} {ds : List D} (r : Rps K F vs ds) : vs.isEmpty = ds.isEmpty := by cases r <;> rfl
theorem Vw.truth {F : Hp} {v : V} {d : D} {k : Bool} (fh : FLe F H) (h : Vw K F H v d) (e : d.truth = some k) : TruV K v H k := by
  cases d with
  | non => cases e; have := h.non; subst this; rfl
  | bl b => cases e; have := h.bl; subst this; rfl
  | int i => cases e; have := h.int; subst this; rfl
  | str z =>
    simp only [D.truth] at e
    split at e
    · rename_i hz; cases e; have := h.str; subst this; exact ⟨hz, rfl⟩
    · cases e
  | tup xs => cases e; obtain ⟨a, zs, rfl, t, r⟩ := h.sqT fh; exact .inr (.inl ⟨zs, t, by rw [isEmpty_rps r]⟩)
  | lst xs => cases e; obtain ⟨a, zs, rfl, t, r⟩ := h.lst fh; exact .inl ⟨zs, SqL.of t, by rw [isEmpty_rps r]⟩
  | _ => simp only [D.truth] at e; cases e
def sTru (s : SO) : ST := fun ρ => (s ρ).bind fun o ρ' => ofO ((o.get ρ').bind D.truth) ρ'
theorem tru_core {G : Gx} {s : SO} {Q : Bool → Hp → Prop} (h : tT G W (sTru s) σ H Q) : tO G W s σ H fun x H' => ∃ k, TruV G.K x H' k ∧ Q k H' := by
  obtain ⟨ρ, F, Rv, io, rel, q⟩ := h
  refine ⟨ρ, F, Rv, io, rel, ?_⟩
  unfold sTru at q
  cases e : s ρ with
  | stuck => rw [e] at q; exact q.elim
  | exc x ρ' => rw [e] at q; exact q
  | ok o ρ' =>
    rw [e, R.bind_ok] at q
    intro v H' F' le rel' ok
    cases e1 : o.get ρ' with
    | none => rw [e1] at q; exact q.elim
    | some d =>
      rw [e1, Option.bind_some] at q
      cases e2 : d.truth with
      | none => rw [e2] at q; exact q.elim
      | some k => rw [e2] at q; exact ⟨k, (rel'.view ok e1).truth rel'.fH e2, q H' F' le rel'⟩
/-- any expression as a test, by its truth -/
theorem d_tru (ha : DO (GK X ex) X W a sa) (he : ∀ whole, isTrue a X.env whole = (do let v ← whole; standAt a.pos; holding [v] (truthy v)) := by intro _; rfl) : DT (GK X ex) X W a (sTru sa) :=
  wkT (pt_truth ha he) fun σ H Q h => tru_core h

/-! ### and, or, not -/
def tAndS (s t : ST) : ST := fun ρ => (s ρ).bind fun k ρ' => match k with
  | true => t ρ'
  | false => .ok false ρ'
def tOrS (s t : ST) : ST := fun ρ => (s ρ).bind fun k ρ' => match k with
  | true => .ok true ρ'
  | false => t ρ'
def tNotS (s : ST) : ST := fun ρ => (s ρ).bind fun k ρ' => .ok (!k) ρ'
abbrev DW (G : Gx) (X : Cx) (W : WX) (e : Expr) (s : ST) : Prop := PW X e (tT G W s)
theorem wkW {X : Cx} {e : Expr} {t u : TT} (h : PW X e t) (w : ∀ σ H Q, u σ H Q → t σ H Q) : PW X e u := ⟨fun wh pins s σ H Q I q => h.run wh pins s σ H Q I (w σ H Q q)⟩
theorem and_core {G : Gx} {s t : ST} {Q : Bool → Hp → Prop} (h : tT G W (tAndS s t) σ H Q) : tAnd (tT G W s) (tT G W t) σ H Q := by
  obtain ⟨ρ, F, Rv, io, rel, q⟩ := h
  refine ⟨ρ, F, Rv, io, rel, ?_⟩
  unfold tAndS at q
  cases e : s ρ with
  | stuck => rw [e] at q; exact q.elim
  | exc x ρ' => rw [e] at q; exact q
  | ok k ρ' =>
    rw [e, R.bind_ok] at q
    intro H' F' le rel'
    cases k with
    | false => exact iteF (q H' F' le rel')
    | true =>
      refine iteT ⟨ρ', F', Rv, io, rel', ?_⟩
      revert q
      show (match t ρ' with | .ok b ρ'' => _ | .exc x ρ'' => _ | .stuck => False) → _
      cases t ρ' with
      | stuck => exact fun q => q
      | exc x ρ'' => exact fun q => XPost.le q le
      | ok k2 ρ'' => exact fun q H2 F2 le2 rel2 => q H2 F2 (le.trans le2) rel2
theorem or_core {G : Gx} {s t : ST} {Q : Bool → Hp → Prop} (h : tT G W (tOrS s t) σ H Q) : tOr (tT G W s) (tT G W t) σ H Q := by
  obtain ⟨ρ, F, Rv, io, rel, q⟩ := h
  refine ⟨ρ, F, Rv, io, rel, ?_⟩
  unfold tOrS at q
  cases e : s ρ with
  | stuck => rw [e] at q; exact q.elim
  | exc x ρ' => rw [e] at q; exact q
  | ok k ρ' =>
    rw [e, R.bind_ok] at q
    intro H' F' le rel'
    cases k with
    | true => exact iteT (q H' F' le rel')
    | false =>
      refine iteF ⟨ρ', F', Rv, io, rel', ?_⟩
      revert q
      show (match t ρ' with | .ok b ρ'' => _ | .exc x ρ'' => _ | .stuck => False) → _
      cases t ρ' with
      | stuck => exact fun q => q
      | exc x ρ'' => exact fun q => XPost.le q le
      | ok k2 ρ'' => exact fun q H2 F2 le2 rel2 => q H2 F2 (le.trans le2) rel2
variable {s t : ST} {rest : List Expr}
theorem d_wand1 (h : DT (GK X ex) X W a s) : DW (GK X ex) X W (.BoolOp .And [a] pos) s := pw_and1 h
theorem d_wor1 (h : DT (GK X ex) X W a s) : DW (GK X ex) X W (.BoolOp .Or [a] pos) s := pw_or1 h
theorem d_wand (h : DT (GK X ex) X W a s) (h2 : DW (GK X ex) X W (.BoolOp .And (b :: rest) pos) t) : DW (GK X ex) X W (.BoolOp .And (a :: b :: rest) pos) (tAndS s t) := wkW (pw_and h h2) fun σ H Q q => and_core q
theorem d_wor (h : DT (GK X ex) X W a s) (h2 : DW (GK X ex) X W (.BoolOp .Or (b :: rest) pos) t) : DW (GK X ex) X W (.BoolOp .Or (a :: b :: rest) pos) (tOrS s t) := wkW (pw_or h h2) fun σ H Q q => or_core q
theorem d_tnot (h : DT (GK X ex) X W a s) : DT (GK X ex) X W (.UnaryOp .Not a pos) (tNotS s) := wkT (pt_not h) fun σ H Q q => by
  obtain ⟨ρ, F, Rv, io, rel, q⟩ := q
  refine ⟨ρ, F, Rv, io, rel, ?_⟩
  unfold tNotS at q
  cases e : s ρ with
  | stuck => rw [e] at q; exact q.elim
  | exc x ρ' => rw [e] at q; exact q
  | ok k ρ' => rw [e] at q; exact q
/-- .. as values: by truth -/
def sAnd (s t : SE) : SE := fun ρ => (s ρ).bind fun d ρ' => match d.truth with
  | some true => t ρ'
  | some false => .ok d ρ'
  | none => .stuck
def sOr (s t : SE) : SE := fun ρ => (s ρ).bind fun d ρ' => match d.truth with
  | some true => .ok d ρ'
  | some false => t ρ'
  | none => .stuck
def sNot (s : SO) : SE := fun ρ => (sTru s ρ).bind fun k ρ' => .ok (.bl (!k)) ρ'
variable {ea eb : SE}
theorem d_one {op} (h : DE (GK X ex) X W a ea) : DE (GK X ex) X W (.BoolOp op [a] pos) ea := pe_one h
theorem d_and (ha : DE (GK X ex) X W a ea) (hb : DE (GK X ex) X W (.BoolOp .And (b :: rest) pos) eb) : DE (GK X ex) X W (.BoolOp .And (a :: b :: rest) pos) (sAnd ea eb) := wkE (pe_andT ha hb) fun σ H Q h => by
  obtain ⟨ρ, F, Rv, io, rel, q⟩ := h
  refine ⟨ρ, F, Rv, io, rel, ?_⟩
  unfold sAnd at q
  cases e : ea ρ with
  | stuck => rw [e] at q; exact q.elim
  | exc x ρ' => rw [e] at q; exact q
  | ok d ρ' =>
    rw [e, R.bind_ok] at q
    intro v H' F' le rel' rp
    cases e2 : d.truth with
    | none => rw [e2] at q; exact q.elim
    | some k =>
      rw [e2] at q
      refine ⟨k, Vw.truth rel'.fH (.inl rp) e2, ?_⟩
      cases k with
      | false => exact iteF (q v H' F' le rel' rp)
      | true =>
        refine iteT ⟨ρ', F', Rv, io, rel', ?_⟩
        revert q
        show (match eb ρ' with | .ok b ρ'' => _ | .exc x ρ'' => _ | .stuck => False) → _
        cases eb ρ' with
        | stuck => exact fun q => q
        | exc x ρ'' => exact fun q => XPost.le q le
        | ok k2 ρ'' => exact fun q => EPost.le q le
theorem d_or (ha : DE (GK X ex) X W a ea) (hb : DE (GK X ex) X W (.BoolOp .Or (b :: rest) pos) eb) : DE (GK X ex) X W (.BoolOp .Or (a :: b :: rest) pos) (sOr ea eb) := wkE (pe_orT ha hb) fun σ H Q h => by
  obtain ⟨ρ, F, Rv, io, rel, q⟩ := h
  refine ⟨ρ, F, Rv, io, rel, ?_⟩
  unfold sOr at q
  cases e : ea ρ with
  | stuck => rw [e] at q; exact q.elim
  | exc x ρ' => rw [e] at q; exact q
  | ok d ρ' =>
    rw [e, R.bind_ok] at q
    intro v H' F' le rel' rp
    cases e2 : d.truth with
    | none => rw [e2] at q; exact q.elim
    | some k =>
      rw [e2] at q
      refine ⟨k, Vw.truth rel'.fH (.inl rp) e2, ?_⟩
      cases k with
      | true => exact iteT (q v H' F' le rel' rp)
      | false =>
        refine iteF ⟨ρ', F', Rv, io, rel', ?_⟩
        revert q
        show (match eb ρ' with | .ok b ρ'' => _ | .exc x ρ'' => _ | .stuck => False) → _
        cases eb ρ' with
        | stuck => exact fun q => q
        | exc x ρ'' => exact fun q => XPost.le q le
        | ok k2 ρ'' => exact fun q => EPost.le q le
theorem d_not (ha : DO (GK X ex) X W a sa) : DE (GK X ex) X W (.UnaryOp .Not a pos) (sNot sa) := wkE (pe_notT ha) fun σ H Q h => by
  refine tru_core (Q := fun k H1 => Q (.bl (!k)) H1) ?_
  obtain ⟨ρ, F, Rv, io, rel, q⟩ := h
  refine ⟨ρ, F, Rv, io, rel, ?_⟩
  unfold sNot at q
  cases e : sTru sa ρ with
  | stuck => rw [e] at q; exact q.elim
  | exc x ρ' => rw [e] at q; exact q
  | ok d ρ' => rw [e] at q; exact fun H' F' le rel' => q _ H' F' le rel' (.bl _)
/-- not e, e itself a test -/
def sNotT (s : ST) : SE := fun ρ => (s ρ).bind fun k ρ' => .ok (.bl (!k)) ρ'
/-- a if t else b -/
def sIf (t : ST) (a b : SE) : SE := fun ρ => (t ρ).bind fun k ρ' => match k with
  | true => a ρ'
  | false => b ρ'
theorem d_if (hc : DT (GK X ex) X W c t) (ha : DE (GK X ex) X W a ea) (hb : DE (GK X ex) X W b eb) : DE (GK X ex) X W (.IfExp c a b pos) (sIf t ea eb) := wkE (pe_ifExp hc ha hb) fun σ H Q h => by
  obtain ⟨ρ, F, Rv, io, rel, q⟩ := h
  refine ⟨ρ, F, Rv, io, rel, ?_⟩
  unfold sIf at q
  cases e : t ρ with
  | stuck => rw [e] at q; exact q.elim
  | exc x ρ' => rw [e] at q; exact q
  | ok k ρ' =>
    rw [e, R.bind_ok] at q
    intro H' F' le rel'
    cases k with
    | true =>
      refine iteT ⟨ρ', F', Rv, io, rel', ?_⟩
      revert q
      show (match ea ρ' with | .ok b ρ'' => _ | .exc x ρ'' => _ | .stuck => False) → _
      cases ea ρ' with
      | stuck => exact fun q => q
      | exc x ρ'' => exact fun q => XPost.le q le
      | ok k2 ρ'' => exact fun q => EPost.le q le
    | false =>
      refine iteF ⟨ρ', F', Rv, io, rel', ?_⟩
      revert q
      show (match eb ρ' with | .ok b ρ'' => _ | .exc x ρ'' => _ | .stuck => False) → _
      cases eb ρ' with
      | stuck => exact fun q => q
      | exc x ρ'' => exact fun q => XPost.le q le
      | ok k2 ρ'' => exact fun q => EPost.le q le
end
end Dt

set_option Elab.async false
set_option linter.all false
set_option maxRecDepth 100000
set_option maxHeartbeats 2000000
/-! The judgements' rules: subscripts, slices, displays, built-in functions, isinstance, walks, comprehensions. -/
namespace Dt
open PySem PySem.Spec PyProof.Rows L2

section
variable {ex : Exx} {X : Cx} {W : WX} {σ : L2.St} {H : Hp} {a b c e : Expr} {es : List Expr} {pos p : Pos} {sa sb sc : SO} {ea eb : SE} {sB : SB} {sA : SA} {x : Str} {id : String}

/-! ### subscripts -/
theorem ix_dct {X : Cx} (hu : X.A.units + 64 < cLine) : IxR X (fun x y H Q => ∃ a v, x = .ref a ∧ DGet H a y (some v) ∧ Q v H) := by
  intro value slice pins s σ H x y v u Q I rx ry h hs
  obtain ⟨a, w, rfl, g, q⟩ := h
  obtain rfl : v = Value.ref a := rx
  exact tail_any (ops := [.ref a, u]) (dict_typeIs I g) PySem.F.slot_dict_getitem.lookup (d_getItem (by omega) I g ry fun w' s3 I3 rw' => ⟨w, H, I3, rw', q⟩) hs
theorem d_idx (hu : At X W) (ha : DO (GK X ex) X W a sa) (hb : DO (GK X ex) X W b sb) (hs : PlainIx b := by intro _ _; rfl) : DE (GK X ex) X W (.Subscript a b pos) (sOps gIdx (b2 sa sb)) :=
  wkE (pe_ix (ix_seq.or (ix_dct hu.un)) ha hb hs) fun σ H Q h => two_ops (r := rIxA X.K) psem_idx h
/-- a part of a slice -/
abbrev SP' := Env → R (Option Int)
def tP (G : Gx) (W : WX) (s : SP') : TO := fun σ H Q => ∃ ρ F Rv, ∃ io : Io G.ex.tabs, Rel G.K io Rv ρ F σ H ∧ match s ρ with
  | .ok b ρ' => ∀ H' F', FLe F F' → Rel G.K io Rv ρ' F' σ H' → Q b H'
  | .exc x ρ' => XPost G W io Rv F ρ' x
  | .stuck => False
def sPn : SP' := fun ρ => .ok none ρ
def sPe (s : SE) : SP' := fun ρ => (s ρ).bind fun d ρ' => match d with
  | .int i => .ok (some i) ρ'
  | _ => .stuck
abbrev DP (G : Gx) (X : Cx) (W : WX) (e : Option Expr) (s : SP') : Prop := PO X e (tP G W s)
theorem wkP {X : Cx} {e : Option Expr} {t u : TO} (h : PO X e t) (w : ∀ σ H Q, u σ H Q → t σ H Q) : PO X e u := ⟨fun pins s σ H Q I q => h.run pins s σ H Q I (w σ H Q q)⟩
theorem d_pn : DP (GK X ex) X W none sPn := wkP po_none fun σ H Q ⟨ρ, F, Rv, io, rel, q⟩ => q H F (FLe.refl F) rel
theorem d_pe (h : DE (GK X ex) X W e ea) : DP (GK X ex) X W (some e) (sPe ea) := wkP (po_some h) fun σ H Q ⟨ρ, F, Rv, io, rel, q⟩ => by
  refine ⟨ρ, F, Rv, io, rel, ?_⟩
  unfold sPe at q
  cases e : ea ρ with
  | stuck => rw [e] at q; exact q.elim
  | exc x ρ' => rw [e] at q; exact q
  | ok d ρ' =>
    rw [e, R.bind_ok] at q
    cases d with
    | int i => intro v H' F' le rel' rp; cases rp; exact ⟨i, rfl, q H' F' le rel'⟩
    | _ => exact q.elim
def sSlice (s : SO) (lo hi : SP') : SE := fun ρ => (s ρ).bind fun o ρ1 => (lo ρ1).bind fun l ρ2 => (hi ρ2).bind fun h ρ3 => ofO ((o.get ρ3).bind fun d => sliceD d l h) ρ3
theorem d_slice {lo hi : Option Expr} {sl sh : SP'} {p2 : Pos} (ha : DO (GK X ex) X W a sa) (hl : DP (GK X ex) X W lo sl) (hh : DP (GK X ex) X W hi sh) : DE (GK X ex) X W (.Subscript a (.Slice lo hi none p2) pos) (sSlice sa sl sh) :=
  wkE (pe_slice sl_all ha hl hh) fun σ H Q ⟨ρ, F, Rv, io, rel, q⟩ => by
    refine ⟨ρ, F, Rv, io, rel, ?_⟩
    unfold sSlice at q
    cases e : sa ρ with
    | stuck => rw [e] at q; exact q.elim
    | exc x ρ' => rw [e] at q; exact q
    | ok o ρ1 =>
      rw [e, R.bind_ok] at q
      refine fun v H1 F1 le1 rel1 ok1 => ⟨ρ1, F1, Rv, io, rel1, ?_⟩
      cases e2 : sl ρ1 with
      | stuck => rw [e2] at q; exact q.elim
      | exc x ρ' => rw [e2] at q; exact XPost.le q le1
      | ok l ρ2 =>
        rw [e2, R.bind_ok] at q
        refine fun H2 F2 le2 rel2 => ⟨ρ2, F2, Rv, io, rel2, ?_⟩
        cases e3 : sh ρ2 with
        | stuck => rw [e3] at q; exact q.elim
        | exc x ρ' => rw [e3] at q; exact XPost.le q (le1.trans le2)
        | ok h ρ3 =>
          rw [e3, R.bind_ok] at q
          refine fun H3 F3 le3 rel3 => ?_
          cases e4 : o.get ρ3 with
          | none => rw [e4] at q; exact q.elim
          | some d =>
            rw [e4, Option.bind_some] at q
            cases e5 : sliceD d l h with
            | none => rw [e5] at q; exact q.elim
            | some z =>
              rw [e5] at q
              exact slice_vw (G := GK X ex) rel3.fH (rel3.view (G := GK X ex) (ok1.mono (le2.trans le3)) e4) e5 fun w H4 F4 n rp => q w H4 F4 (((le1.trans le2).trans le3).trans n.f) (rel3.after n) rp
/-- xs[::-1]: a new list -/
def sRev (s : SO) : SE := fun ρ => (s ρ).bind fun o ρ' => match o.get ρ' with
  | some (.lst xs) => .ok (.lst xs.reverse) ρ'
  | _ => .stuck
theorem d_revF {k : Nat} {p1 p2 p3 : Pos} (ha : DO (GK X ex) X W a sa) : DF (GK X ex) X W (.Subscript a (.Slice none none (some (.UnaryOp .USub (.Constant (.int 1) k p1) p2)) p3) pos) (sRev sa) :=
  wkE (pe_revL ha) fun σ H Q ⟨ρ, F, Rv, io, rel, q⟩ => by
    refine ⟨ρ, F, Rv, io, rel, ?_⟩
    unfold sRev at q
    cases e : sa ρ with
    | stuck => rw [e] at q; exact q.elim
    | exc x ρ' => rw [e] at q; exact q
    | ok o ρ1 =>
      rw [e, R.bind_ok] at q
      refine fun v H1 F1 le1 rel1 ok1 => ?_
      cases e4 : o.get ρ1 with
      | none => rw [e4] at q; exact q.elim
      | some d =>
        rw [e4] at q
        cases d with
        | lst xs =>
          obtain ⟨a, zs, rfl, t, r⟩ := (rel1.view (G := GK X ex) ok1 e4).lst rel1.fH
          refine ⟨a, zs, rfl, SqL.of t, fun p hp => q p _ F1 le1 (rel1.newH hp _) ⟨rel1.fH.noneOf hp, rel1.rH.noneOf hp, _, upd_same, _, rfl, r.reverse⟩ (rel1.loose hp)⟩
        | _ => exact q.elim

/-! ### displays; new objects frozen -/
theorem d_fz (h : DF (GK X ex) X W e ea) : DE (GK X ex) X W e ea := wkE (pe_lk h) fun σ H Q ⟨ρ, F, Rv, io, rel, q⟩ => by
  refine ⟨ρ, F, Rv, io, rel, ?_⟩
  revert q
  cases ea ρ with
  | stuck => exact fun q => q
  | exc x ρ' => exact fun q => q
  | ok d ρ' =>
    intro q p H' F' le rel' ow lo
    obtain ⟨o, h1, h2⟩ := ow.at_
    refine .inr ⟨p, o, rfl, h1, h2.lkb, fun od => ?_⟩
    have le2 := FLe.upd (p := p) (lk od o) ow.nF
    have nR : ∀ a u, Rv a = some u → a ≠ p := fun a u e z => by subst z; rw [ow.nR] at e; cases e
    refine q _ (upd H' p (lk od o)) (upd F' p (lk od o)) (le.trans le2) ⟨fun a u e => ?_, fun a u e => by rw [upd_ne (nR a u e)]; exact rel'.rH a u e, fun a u e => ?_, rel'.len, fun i c v e1 e2 => ?_, rel'.inj, rel'.ios, rel'.ioc, fun t ht => let q := rel'.tab t ht; let ⟨ps, ep⟩ := q.tbl; q.mv (by rw [upd_ne (own_ne ow ep)]; exact q.1) q.2.1 (fun ps e => by rw [upd_ne (own_ne ow e)]; exact e) le2 q.nR, rel'.nt.upd (h2.nt od).2⟩ ((h2.mono le2).rp upd_same)
    · by_cases z : a = p
      · subst z; rw [upd_same] at e; cases e; exact upd_same
      · rw [upd_ne z] at e; rw [upd_ne z]; exact rel'.fH a u e
    · by_cases z : a = p
      · subst z; exact ow.nR
      · rw [upd_ne z] at e; exact rel'.dj a u e
    · have q := rel'.cell i c v e1 e2
      have keep : ∀ {p' d'}, c.held = some d' → v = some (.ref p') → OwnAt X.K F' Rv H' p' d' → OwnAt X.K (upd F' p (lk od o)) Rv (upd H' p (lk od o)) p' d' := fun {p' d'} h3 h4 w => by
        obtain ⟨o', e, q3⟩ := w.at_
        have ne : p' ≠ p := by intro z; subst z; subst h4; exact lo i c d' e1 h3 e2
        exact ⟨by rw [upd_ne ne]; exact w.nF, w.nR, o', by rw [upd_ne ne]; exact e, q3.mono le2⟩
      cases c with
      | no => trivial
      | fro d' => obtain ⟨y, e, q⟩ := q; exact ⟨y, e, q.mono le2⟩
      | own d' => obtain ⟨p', e, q⟩ := q; exact ⟨p', e, keep rfl e q⟩
      | io d' => obtain ⟨p', e, q⟩ := q; exact ⟨p', e, keep rfl e q⟩
def sTup (s : SA) : SE := fun ρ => (s ρ).bind fun ds ρ' => if ds.length ≤ sizeLine then .ok (.tup ds) ρ' else .stuck
def sLst (s : SA) : SE := fun ρ => (s ρ).bind fun ds ρ' => if ds.length ≤ sizeLine then .ok (.lst ds) ρ' else .stuck
theorem d_tup {k : Nat} (h : DA (GK X ex) X W es sA) : DE (GK X ex) X W (.Tuple es k pos) (sTup sA) := wkE (pe_tupZ h) fun σ H Q ⟨ρ, F, Rv, io, rel, q⟩ => by
  refine ⟨ρ, F, Rv, io, rel, ?_⟩
  unfold sTup at q
  cases e : sA ρ with
  | stuck => rw [e] at q; exact q.elim
  | exc x ρ' => rw [e] at q; exact q
  | ok ds ρ' =>
    rw [e, R.bind_ok] at q
    intro vs H' F' le rel' r
    by_cases hz : ds.length ≤ sizeLine
    · rw [if_pos hz] at q
      exact ⟨by rw [r.length]; exact hz, fun p o hp ho => q _ _ _ (le.trans (FLe.upd _ (rel'.fH.noneOf hp))) (rel'.new hp _) (.tup (.new ho) (r.mono (FLe.upd _ (rel'.fH.noneOf hp))))⟩
    · rw [if_neg hz] at q; exact q.elim
theorem d_lstF (h : DA (GK X ex) X W es sA) : DF (GK X ex) X W (.List es pos) (sLst sA) := wkE (pe_lst h) fun σ H Q ⟨ρ, F, Rv, io, rel, q⟩ => by
  refine ⟨ρ, F, Rv, io, rel, ?_⟩
  unfold sLst at q
  cases e : sA ρ with
  | stuck => rw [e] at q; exact q.elim
  | exc x ρ' => rw [e] at q; exact q
  | ok ds ρ' =>
    rw [e, R.bind_ok] at q
    intro vs H' F' le rel' r
    by_cases hz : ds.length ≤ sizeLine
    · rw [if_pos hz] at q
      exact ⟨by rw [r.length]; exact hz, fun p hp => q p _ F' le (rel'.newH hp _) ⟨rel'.fH.noneOf hp, rel'.rH.noneOf hp, _, upd_same, _, rfl, r⟩ (rel'.loose hp)⟩
    · rw [if_neg hz] at q; exact q.elim
theorem d_lst (h : DA (GK X ex) X W es sA) : DE (GK X ex) X W (.List es pos) (sLst sA) := d_fz (d_lstF h)
/-- {}: keys will be ints and texts -/
theorem d_dctF : DF (GK X ex) X W (.Dict [] [] pos) (sCst (.dct [] [])) := wkE pe_dnewK fun σ H Q ⟨ρ, F, Rv, io, rel, q⟩ =>
  fun p hp => q p _ F (FLe.refl F) (rel.newH hp _) ⟨rel.fH.noneOf hp, rel.rH.noneOf hp, _, upd_same, [], rfl, rfl, .nil⟩ (rel.loose hp)

/-! ### built-in functions -/
theorem d_callB {r : RL} {g : List D → Option D} (hc : CallR X (.builtin id) r) (hG : PSem (GK X ex) r g) (hg : Gl X x) (hm : X.mg x = none) (ha : DB (GK X ex) X W (e :: es) sB) (hv : bootBuiltins x = some (.builtin id) := by decide +kernel) (hn : x ≠ "__name__" := by decide) (hdb : (x == ("__debug__" : Str)) = false := by decide)
    (he : starEach (e :: es) X.env = (false, eval e X.env) :: starEach es X.env := by rfl) (hpl : (backTo pos (starEach es X.env)).any (·.1) = false := by rfl) : DE (GK X ex) X W (.Call (.Name x p) (e :: es) [] pos) (sOps g sB) :=
  wkE (pe_callB hc hg hm hv ha hn hdb he hpl) fun σ H Q h => ops_core hG h
theorem d_callTy {r : RL} {g : List D → Option D} (hc : CallR X (.type id) r) (hG : PSem (GK X ex) r g) (hg : Gl X x) (hm : X.mg x = none) (ha : DB (GK X ex) X W (e :: es) sB) (hv : bootBuiltins x = some (.type id) := by decide +kernel) (hn : x ≠ "__name__" := by decide) (hdb : (x == ("__debug__" : Str)) = false := by decide)
    (he : starEach (e :: es) X.env = (false, eval e X.env) :: starEach es X.env := by rfl) (hpl : (backTo pos (starEach es X.env)).any (·.1) = false := by rfl) : DE (GK X ex) X W (.Call (.Name x p) (e :: es) [] pos) (sOps g sB) :=
  wkE (pe_callTy hc hg hm hv ha hn hdb he hpl) fun σ H Q h => ops_core hG h
theorem d_callTyF {r : RL} {g : List D → Option D} (hc : CallR X (.type id) r) (hG : FSem (GK X ex) r g) (hg : Gl X x) (hm : X.mg x = none) (ha : DB (GK X ex) X W (e :: es) sB) (hv : bootBuiltins x = some (.type id) := by decide +kernel) (hn : x ≠ "__name__" := by decide) (hdb : (x == ("__debug__" : Str)) = false := by decide)
    (he : starEach (e :: es) X.env = (false, eval e X.env) :: starEach es X.env := by rfl) (hpl : (backTo pos (starEach es X.env)).any (·.1) = false := by rfl) : DF (GK X ex) X W (.Call (.Name x p) (e :: es) [] pos) (sOps g sB) :=
  wkE (pe_callTy hc hg hm hv ha hn hdb he hpl) fun σ H Q h => opsF_core hG h

/-! ### isinstance -/
/-- of a built-in type: bool is an int -/
def isTn (n t : String) : Bool := n == t || (t == "int" && n == "bool")
def isT (d : D) (t : String) : Bool := isTn (tyN d) t
def kindL : List String := ["int", "bool", "str", "tuple", "list", "dict"]
abbrev Kinds (t : String) : Prop := t ∈ kindL
theorem kit_all : ("NoneType" :: kindL).all (fun n => kindL.all fun t => kitB n t == some (isTn n t)) = true := by decide +kernel
theorem tyN_mem (d : D) : tyN d ∈ "NoneType" :: kindL := by cases d <;> simp [tyN, kindL]
theorem kit_isT {K : PySem.W.Frag} (d : D) {t : String} (h : Kinds t) : PySem.W.kitOne K (.type (tyN d)) (.type t) = some (isT d t) := by
  refine kit_ty ?_
  have z := List.all_eq_true.mp (List.all_eq_true.mp kit_all _ (tyN_mem d)) t h
  exact beq_iff_eq.mp z
def isTo (ts : List String) (d : D) : Option D := if d.isFn = true then none else some (.bl (ts.any (isT d)))
def sIsi (ts : List String) (s : SO) : SE := fun ρ => (s ρ).bind fun o ρ' => ofO ((o.get ρ').bind (isTo ts)) ρ'
theorem isi_core {G : Gx} {ts : List String} {Q : VK} (h : tE G W (sIsi ts sa) σ H Q) : tO G W sa σ H fun x H1 => ∃ F d, FLe F H1 ∧ Vw G.K F H1 x d ∧ d.isFn = false ∧ ∀ H2, FLe H1 H2 → Q (.bl (ts.any (isT d))) H2 := by
  obtain ⟨ρ, F, Rv, io, rel, q⟩ := h
  refine ⟨ρ, F, Rv, io, rel, ?_⟩
  unfold sIsi at q
  cases e : sa ρ with
  | stuck => rw [e] at q; exact q.elim
  | exc x ρ' => rw [e] at q; exact q
  | ok o ρ' =>
    rw [e, R.bind_ok] at q
    intro v H' F' le rel' ok
    cases e1 : o.get ρ' with
    | none => rw [e1] at q; exact q.elim
    | some d =>
      rw [e1, Option.bind_some] at q
      unfold isTo at q
      cases hd : d.isFn with
      | true => rw [if_pos hd] at q; exact q.elim
      | false =>
      rw [if_neg (by rw [hd]; decide)] at q
      exact ⟨F', d, rel'.fH, rel'.view ok e1, hd, fun H2 h2 => q _ H2 F' le (rel'.grow (FLe.refl _) h2 (rel'.fH.trans h2) (fun _ _ e => .inl e) rel'.nt) (.bl _)⟩
theorem isi_gl (hg : Gl X "isinstance") (hm : X.mg "isinstance" = none) {t : TA} {r : RL} {e2 : Expr} (hc : CallR X (.builtin "isinstance") r) (ha : PA X (a :: e2 :: []) t) (he : starEach (a :: e2 :: []) X.env = (false, eval a X.env) :: starEach (e2 :: []) X.env) (hpl : (backTo pos (starEach (e2 :: []) X.env)).any (·.1) = false) :
    PE X (.Call (.Name "isinstance" p) (a :: e2 :: []) [] pos) (tCB r t) := pe_callB hc hg hm (by decide +kernel) ha (by decide) (by decide) he hpl
theorem d_isi1 {t : Str} {ty : String} {q : Pos} (hg : Gl X "isinstance") (hm : X.mg "isinstance" = none) (ht : Kinds ty) (gt : Gl X t) (mt : X.mg t = none) (ha : DO (GK X ex) X W a sa) (hv : bootBuiltins t = some (.type ty) := by decide +kernel) (hn : t ≠ "__name__" := by decide) (hdb : (t == ("__debug__" : Str)) = false := by decide)
    (he : starEach (a :: (.Name t q) :: []) X.env = (false, eval a X.env) :: starEach ((.Name t q) :: []) X.env := by rfl) (hpl : (backTo pos (starEach ((.Name t q) :: []) X.env)).any (·.1) = false := by rfl) (hs2 : starEach ((.Name t q) :: []) X.env = (false, eval (.Name t q) X.env) :: starEach [] X.env := by rfl) :
    DE (GK X ex) X W (.Call (.Name "isinstance" p) (a :: (.Name t q) :: []) [] pos) (sIsi [ty] sa) :=
  wkE (isi_gl hg hm call_isi (pa_cons ha (pa_cons (pe_bltn (v := .ty ty) gt mt hv rfl hn hdb) pa_nil hs2) he) he hpl) fun σ H Q h =>
    tO_mono (isi_core h) fun x H1 ⟨F, d, fh, vw, hd, q⟩ => ⟨x, .ty ty, .type (tyN d), .type ty, isT d ty, rfl, .ty _, ty_vw fh vw hd, kit_isT d ht, by have z := q H1 (FLe.refl _); simpa using z⟩
theorem d_isi2 {t t' : Str} {ty ty' : String} {q q' q2 : Pos} {k : Nat} (hg : Gl X "isinstance") (hm : X.mg "isinstance" = none) (ht : Kinds ty) (ht' : Kinds ty') (gt : Gl X t) (mt : X.mg t = none) (gt' : Gl X t') (mt' : X.mg t' = none) (ha : DO (GK X ex) X W a sa)
    (hv : bootBuiltins t = some (.type ty) := by decide +kernel) (hn : t ≠ "__name__" := by decide) (hdb : (t == ("__debug__" : Str)) = false := by decide) (hv' : bootBuiltins t' = some (.type ty') := by decide +kernel) (hn' : t' ≠ "__name__" := by decide) (hdb' : (t' == ("__debug__" : Str)) = false := by decide)
    (he : starEach (a :: (.Tuple [.Name t q, .Name t' q'] k q2) :: []) X.env = (false, eval a X.env) :: starEach ((.Tuple [.Name t q, .Name t' q'] k q2) :: []) X.env := by rfl) (hpl : (backTo pos (starEach ((.Tuple [.Name t q, .Name t' q'] k q2) :: []) X.env)).any (·.1) = false := by rfl)
    (hs2 : starEach ((.Tuple [.Name t q, .Name t' q'] k q2) :: []) X.env = (false, eval (.Tuple [.Name t q, .Name t' q'] k q2) X.env) :: starEach [] X.env := by rfl)
    (hs3 : starEach (.Name t q :: [.Name t' q']) X.env = (false, eval (.Name t q) X.env) :: starEach [.Name t' q'] X.env := by rfl) (hs4 : starEach (.Name t' q' :: []) X.env = (false, eval (.Name t' q') X.env) :: starEach [] X.env := by rfl) :
    DE (GK X ex) X W (.Call (.Name "isinstance" p) (a :: (.Tuple [.Name t q, .Name t' q'] k q2) :: []) [] pos) (sIsi [ty, ty'] sa) :=
  wkE (isi_gl hg hm call_isiT (pa_cons ha (pa_cons (pe_tup (pa_cons (pe_bltn (v := .ty ty) gt mt hv rfl hn hdb) (pa_cons (pe_bltn (v := .ty ty') gt' mt' hv' rfl hn' hdb') pa_nil hs4) hs3)) pa_nil hs2) he) he hpl) fun σ H Q h =>
    tO_mono (isi_core h) fun x H1 ⟨F, d, fh, vw, hd, q⟩ => ⟨(by show 2 ≤ sizeLine; decide), fun pp hp => ⟨x, pp, [.ty ty, .ty ty'], .type (tyN d), [.type ty, .type ty'], [ty, ty'].any (isT d), rfl, upd_same, .cons (.ty _) (.cons (.ty _) .nil),
      (by
        have g := ty_vw (K := X.K) (fh.trans (FLe.upd (.tup [.ty ty, .ty ty']) hp)) (v := x) (d := d) (by
          rcases vw with z | ⟨p', o, e1, e2, e3⟩
          · exact .inl z
          · exact .inr ⟨p', o, e1, by rw [upd_ne (ne_of_none e2 hp)]; exact e2, e3⟩) hd
        exact g),
      (by
        have k1 := kit_isT (K := X.K) d ht
        have k2 := kit_isT (K := X.K) d ht'
        cases e1 : isT d ty <;> cases e2 : isT d ty' <;> rw [e1] at k1 <;> rw [e2] at k2
        · exact kitAny_cons k1 (fun _ => kitAny_cons k2 (fun _ => by simp [e1, e2, kitAny_nil]) (fun z => nomatch z)) (fun z => nomatch z)
        · exact kitAny_cons k1 (fun _ => kitAny_cons k2 (fun z => nomatch z) (fun _ => by simp [e1, e2])) (fun z => nomatch z)
        · exact kitAny_cons k1 (fun z => nomatch z) (fun _ => by simp [e1])
        · exact kitAny_cons k1 (fun z => nomatch z) (fun _ => by simp [e1])), q _ (FLe.upd _ hp)⟩⟩
end
end Dt

set_option Elab.async false
set_option linter.all false
set_option maxRecDepth 100000
set_option maxHeartbeats 2000000
/-! The judgements' rules: walks, targets, comprehensions, statements. -/
namespace Dt
open PySem PySem.Spec PyProof.Rows L2

/-- an iterator that gives these, whatever more there is -/
structure IterOk (K : PySem.W.Frag) (J : It) (F : Hp) (ds : List D) : Prop where
  go : ∀ (i : Nat) (F1 H : Hp), FLe F F1 → FLe F1 H → i < ds.length → J.go i H
  stop : ∀ (F1 H : Hp), FLe F F1 → FLe F1 H → J.stop ds.length H
  yld : ∀ (i : Nat) (F1 H H' : Hp) (x : V) (d : D), FLe F F1 → FLe F1 H → ds[i]? = some d → J.yld i H x H' → ∃ F2, New F1 H F2 H' ∧ Rp K F2 x d
def tI (G : Gx) (W : WX) (s : SA) : TI := fun σ H Q => ∃ ρ F Rv, ∃ io : Io G.ex.tabs, Rel G.K io Rv ρ F σ H ∧ match s ρ with
  | .ok ds ρ' => ∀ J H' F', FLe F F' → Rel G.K io Rv ρ' F' σ H' → IterOk G.K J F' ds → Q J H'
  | .exc x ρ' => XPost G W io Rv F ρ' x
  | .stuck => False
abbrev DI (G : Gx) (X : Cx) (W : WX) (tg e : Expr) (s : SA) : Prop := PI X tg e (tI G W s)
theorem wkI {X : Cx} {tg e : Expr} {t u : TI} (h : PI X tg e t) (w : ∀ σ H Q, u σ H Q → t σ H Q) : PI X tg e u := ⟨fun pins s σ H Q I q => h.run pins s σ H Q I (w σ H Q q)⟩

section
variable {K : PySem.W.Frag} {F : Hp}
theorem iter_lst {a : Addr} {xs : List V} {ds : List D} (t : F a = some (.lst xs)) (r : Rps K F xs ds) : IterOk K (Itl K a) F ds := by
  have at_ : ∀ {F1 H : Hp}, FLe F F1 → FLe F1 H → SqL K H a xs := fun h1 h2 => SqL.of (h2 _ _ (h1 _ _ t))
  refine ⟨fun i F1 H h1 h2 hi => ?_, fun F1 H h1 h2 => ⟨xs, at_ h1 h2, Nat.le_of_eq r.length⟩, fun i F1 H H' x d h1 h2 e y => ?_⟩
  · have hi' : i < xs.length := by rw [r.length]; exact hi
    exact ⟨xs, xs[i], at_ h1 h2, by simp [hi']⟩
  · obtain ⟨v, e1, rp⟩ := r.get e
    have e2 := y.2 xs (at_ h1 h2)
    rw [e1] at e2
    cases e2
    rw [y.1]
    exact ⟨F1, New.refl h2, rp.mono h1⟩
theorem iter_tup {a : Addr} {xs : List V} {ds : List D} (t : SqT K F a xs) (r : Rps K F xs ds) : IterOk K (Itt K a) F ds := by
  have at_ : ∀ {F1 H : Hp}, FLe F F1 → FLe F1 H → SqT K H a xs := fun h1 h2 => h2.sqT (h1.sqT t)
  refine ⟨fun i F1 H h1 h2 hi => ?_, fun F1 H h1 h2 => ⟨xs, at_ h1 h2, Nat.le_of_eq r.length⟩, fun i F1 H H' x d h1 h2 e y => ?_⟩
  · have hi' : i < xs.length := by rw [r.length]; exact hi
    exact ⟨xs, xs[i], at_ h1 h2, by simp [hi']⟩
  · obtain ⟨v, e1, rp⟩ := r.get e
    have e2 := y.2 xs (at_ h1 h2)
    rw [e1] at e2
    cases e2
    rw [y.1]
    exact ⟨F1, New.refl h2, rp.mono h1⟩
/-- a dict by its keys: it is locked -/
theorem iter_dct {a : Addr} {od : Obj} {kvs : List (Key × V)} (t : F a = some (.frz od (.dK kvs))) : IterOk K (Itk a od kvs) F ((kvs.map (·.1)).map keyD) := by
  have at_ : ∀ {F1 H : Hp}, FLe F F1 → FLe F1 H → H a = some (.frz od (.dK kvs)) := fun h1 h2 => h2 _ _ (h1 _ _ t)
  refine ⟨fun i F1 H h1 h2 hi => ⟨at_ h1 h2, by simpa using hi⟩, fun F1 H h1 h2 => ⟨at_ h1 h2, by simp⟩, fun i F1 H H' x d h1 h2 e y => ?_⟩
  obtain ⟨e1, k, v, e2, rfl⟩ := y
  rw [e1]
  refine ⟨F1, New.refl h2, ?_⟩
  rw [List.getElem?_map, List.getElem?_map, e2] at e
  cases e
  exact rp_key k
def signs (z : Str) : List D := z.cps.toList.map fun c => .str ⟨#[c]⟩
theorem iter_str {z : Str} : IterOk K (Its z) F (signs z) := by
  refine ⟨fun i F1 H h1 h2 hi => (show i < z.cps.size from by simpa [signs] using hi), fun F1 H h1 h2 => by simp [signs, Its], fun i F1 H H' x d h1 h2 e y => ?_⟩
  obtain ⟨e1, c, e2, rfl⟩ := y
  rw [e1]
  refine ⟨F1, New.refl h2, ?_⟩
  have e3 : z.cps.toList[i]? = some c := by simpa using e2
  unfold signs at e
  rw [List.getElem?_map, e3] at e
  cases e
  exact .str _
def upto (lo : Int) (n : Nat) : List D := (List.range n).map fun i => .int (lo + (i : Nat))
theorem iter_rng {lo : Int} {n : Nat} : IterOk K (Itr lo n) F (upto lo n) := by
  refine ⟨fun i F1 H h1 h2 hi => by simpa [upto, Itr] using hi, fun F1 H h1 h2 => by simp [upto, Itr], fun i F1 H H' x d h1 h2 e y => ?_⟩
  obtain ⟨e1, rfl⟩ := y
  rw [e1]
  refine ⟨F1, New.refl h2, ?_⟩
  unfold upto at e
  rw [List.getElem?_map] at e
  cases e2 : (List.range n)[i]? with
  | none => rw [e2] at e; cases e
  | some j =>
    rw [e2] at e
    have e3 : j = i := by
      rw [List.getElem?_range] at e2
      · cases e2; rfl
      · by_cases h : i < n
        · exact h
        · rw [List.getElem?_eq_none (by simp; omega)] at e2; cases e2
    subst e3
    cases e
    exact .int _
end

section
variable {ex : Exx} {X : Cx} {W : WX} {σ : L2.St} {H : Hp} {a b c e tg : Expr} {es : List Expr} {pos p : Pos} {sa sb sc : SO} {ea eb : SE} {sB : SB} {sA : SA} {x : Str} {id : String}
/-- a list, a tuple, a text, a locked dict -/
theorem pi_any (he : PE X e ta) : PI X tg e (fun σ H R => ta σ H fun x H1 => (∃ a xs, x = V.ref a ∧ SqL X.K H1 a xs ∧ R (Itl X.K a) H1) ∨ (∃ a xs, x = V.ref a ∧ SqT X.K H1 a xs ∧ R (Itt X.K a) H1) ∨ (∃ z, x = V.str z ∧ R (Its z) H1) ∨ ∃ a od kvs, x = V.ref a ∧ H1 a = some (.frz od (.dK kvs)) ∧ R (Itk a od kvs) H1) := by
  refine ⟨fun pins s σ H R I h => thn (he.run pins s σ H _ I h) fun v s1 ⟨x, H1, I1, r1, q1⟩ => ?_⟩
  rcases q1 with ⟨a, xs, rfl, hq, q⟩ | ⟨a, xs, rfl, hq, q⟩ | ⟨z, rfl, q⟩ | ⟨a, od, kvs, rfl, hd, q⟩
  · obtain rfl : v = Value.ref a := r1
    obtain ⟨its, _, pl, _⟩ := I1.list hq
    exact wpAny_pyIter_list pl.isList (pi_one (tk := s1.toks) I1 _ (turn_list a _) ⟨_, Heap.get?_push_size _ rfl, rfl, rfl⟩ q)
  · obtain rfl : v = Value.ref a := r1
    obtain ⟨its, _, pl, _⟩ := I1.tuple hq
    exact wpAny_pyIter_tuple (show s1.heap.IsTuple a its.toArray from pl) (pi_one (tk := s1.toks) I1 _ (turn_tuple a _) ⟨_, Heap.get?_push_size _ rfl, rfl, rfl⟩ q)
  · obtain ⟨t, rfl⟩ := r1
    cases hz : z.cps.all (· < 128) with
    | false => exact wpAny_pyIter_wide hz (pi_one (tk := s1.toks) I1 _ (turn_str _ z t "str_iterator" (.inr rfl)) ⟨_, Heap.get?_push_size _ rfl, rfl, rfl⟩ q)
    | true => exact wpAny_pyIter_ascii hz (pi_one (tk := s1.toks) I1 _ (turn_str _ z t "str_ascii_iterator" (.inl rfl)) ⟨_, Heap.get?_push_size _ rfl, rfl, rfl⟩ q)
  · obtain rfl : v = Value.ref a := r1
    obtain ⟨hs, hgd, hx, es, ep, vs, hdt, hsz, kv, hm⟩ := I1.frzK hd
    refine iter_keys hs hgd hx hdt (pi_one (tk := s1.toks) I1 _ (turn_keys _ hdt) ⟨_, Heap.get?_push_size _ rfl, rfl, ?_⟩ q)
    rw [hsz] <;> rfl
def itemsD : D → Option (List D)
  | .lst ds => some ds
  | .tup ds => some ds
  | .str z => some (signs z)
  | .arg ds => some ds
  | .dct ks _ => some (ks.map keyD)
  | _ => none
def iAny (s : SE) : SA := fun ρ => (s ρ).bind fun d ρ' => ofO (itemsD d) ρ'
theorem d_iAny (h : DE (GK X ex) X W e ea) : DI (GK X ex) X W tg e (iAny ea) := wkI (pi_any h) fun σ H Q ⟨ρ, F, Rv, io, rel, q⟩ => by
  refine ⟨ρ, F, Rv, io, rel, ?_⟩
  unfold iAny at q
  cases e : ea ρ with
  | stuck => rw [e] at q; exact q.elim
  | exc x ρ' => rw [e] at q; exact q
  | ok d ρ' =>
    rw [e, R.bind_ok] at q
    intro v H' F' le rel' rp
    cases rp with
    | lst t r => exact .inl ⟨_, _, rfl, SqL.of (rel'.fH _ _ t), q _ H' F' le rel' (iter_lst t r)⟩
    | tup t r => exact .inr (.inl ⟨_, _, rfl, rel'.fH.sqT t.sq, q _ H' F' le rel' (iter_tup t.sq r)⟩)
    | arg t r => exact .inr (.inl ⟨_, _, rfl, rel'.fH.sqT t, q _ H' F' le rel' (iter_tup t r)⟩)
    | str z => exact .inr (.inr (.inl ⟨z, rfl, q _ H' F' le rel' iter_str⟩))
    | dct t r => exact .inr (.inr (.inr ⟨_, _, _, rfl, rel'.fH _ _ t, q _ H' F' le rel' (iter_dct t)⟩))
    | _ => exact q.elim
def rng1D : List D → Option (List D)
  | [.int j] => if -(2 ^ 62) ≤ j ∧ j < 2 ^ 62 then some (upto 0 j.toNat) else none
  | _ => none
theorem rng1D_some {ds zs : List D} (h : rng1D ds = some zs) : ∃ j : Int, ds = [.int j] ∧ -(2 ^ 62) ≤ j ∧ j < 2 ^ 62 ∧ zs = upto 0 j.toNat := by
  unfold rng1D at h
  split at h
  · rename_i j
    split at h
    · rename_i hj; cases h; exact ⟨j, rfl, hj.1, hj.2, rfl⟩
    · cases h
  · cases h
def iRng1' (s : SA) : SA := fun ρ => (s ρ).bind fun ds ρ' => ofO (rng1D ds) ρ'
theorem d_iRng1 {e : Expr} (hg : Gl X "range") (hm : X.mg "range" = none) (ha : DA (GK X ex) X W [e] sA) (hs : starEach [e] X.env = [(false, eval e X.env)] := by rfl) : DI (GK X ex) X W tg (.Call (.Name "range" p) [e] [] pos) (iRng1' sA) :=
  wkI (pi_range1 hg hm ha hs) fun σ H Q ⟨ρ, F, Rv, io, rel, q⟩ => by
    refine ⟨ρ, F, Rv, io, rel, ?_⟩
    unfold iRng1' at q
    cases e : sA ρ with
    | stuck => rw [e] at q; exact q.elim
    | exc x ρ' => rw [e] at q; exact q
    | ok ds ρ' =>
      rw [e, R.bind_ok] at q
      intro vs H' F' le rel' rp
      cases e2 : rng1D ds with
      | none => rw [e2] at q; exact q.elim
      | some zs =>
        rw [e2] at q
        obtain ⟨j, rfl, h1, h2, rfl⟩ := rng1D_some e2
        cases rp with
        | cons r rr => cases rr; cases r; exact ⟨j, rfl, h1, h2, q _ H' F' le rel' iter_rng⟩
def rng2D : List D → Option (List D)
  | [.int i, .int j] => if -(2 ^ 62) ≤ i ∧ i < 2 ^ 62 ∧ -(2 ^ 62) ≤ j ∧ j < 2 ^ 62 then some (upto i (j - i).toNat) else none
  | _ => none
theorem rng2D_some {ds zs : List D} (h : rng2D ds = some zs) : ∃ i j : Int, ds = [.int i, .int j] ∧ (-(2 ^ 62) ≤ i ∧ i < 2 ^ 62 ∧ -(2 ^ 62) ≤ j ∧ j < 2 ^ 62) ∧ zs = upto i (j - i).toNat := by
  unfold rng2D at h
  split at h
  · rename_i i j
    split at h
    · rename_i hj; cases h; exact ⟨i, j, rfl, hj, rfl⟩
    · cases h
  · cases h
def iRng2' (s : SA) : SA := fun ρ => (s ρ).bind fun ds ρ' => ofO (rng2D ds) ρ'
theorem d_iRng2 {e e2 : Expr} (hg : Gl X "range") (hm : X.mg "range" = none) (ha : DA (GK X ex) X W [e, e2] sA) (hs : starEach [e, e2] X.env = [(false, eval e X.env), (false, eval e2 X.env)] := by rfl) (hs2 : starEach [e2] X.env = [(false, eval e2 X.env)] := by rfl) :
    DI (GK X ex) X W tg (.Call (.Name "range" p) [e, e2] [] pos) (iRng2' sA) :=
  wkI (pi_range2 hg hm ha hs hs2) fun σ H Q ⟨ρ, F, Rv, io, rel, q⟩ => by
    refine ⟨ρ, F, Rv, io, rel, ?_⟩
    unfold iRng2' at q
    cases e : sA ρ with
    | stuck => rw [e] at q; exact q.elim
    | exc x ρ' => rw [e] at q; exact q
    | ok ds ρ' =>
      rw [e, R.bind_ok] at q
      intro vs H' F' le rel' rp
      cases e2 : rng2D ds with
      | none => rw [e2] at q; exact q.elim
      | some zs =>
        rw [e2] at q
        obtain ⟨i, j, rfl, h1, rfl⟩ := rng2D_some e2
        cases rp with
        | cons r rr => cases rr with
          | cons r2 rr => cases rr; cases r; cases r2; exact ⟨i, j, rfl, h1, q _ H' F' le rel' iter_rng⟩

/-! ### targets -/
def gSet (i : Nat) : SG := fun d ρ => match ρ[i]? with
  | some (.io _) => .stuck
  | none => .stuck
  | _ => .ok () (ρ.set i (.fro d))
theorem wkG {X : Cx} {e : Expr} {t u : TG} (h : PG X e t) (w : ∀ v σ H Q, u v σ H Q → t v σ H Q) : PG X e u := ⟨fun pins s σ H v vv Q I r q => h.run pins s σ H v vv Q I r (w v σ H Q q)⟩
theorem gSet_ok {ρ ρ' : Env} {i : Nat} {d : D} {u : Unit} (h : gSet i d ρ = .ok u ρ') : (∀ e, ρ[i]? ≠ some (Cell.io e)) ∧ ρ' = ρ.set i (.fro d) := by
  unfold gSet at h
  split at h
  · cases h
  · cases h
  · rename_i h1 h2
    cases h
    exact ⟨fun e z => h1 e z, rfl⟩
theorem d_gName {i : Nat} (hN : X.N.Nodup) (hi : X.N[i]? = some x) (hx : Loc X.env.scope x) (hf : X.fn x = true ∨ X.env.scope.names.lookup x = some .local) : DG (GK X ex) X W [i] (.Name x pos) (gSet i) :=
  wkG (pg_name hN hi hx hf) fun v σ H Q ⟨d, ρ, F, Rv, io, rel, rp, q⟩ => by
    show Q (σ.set i (some v)) H
    cases e : gSet i d ρ with
    | stuck => rw [e] at q; exact q.elim
    | exc x ρ' => unfold gSet at e; split at e <;> cases e
    | ok u ρ' =>
      rw [e] at q
      obtain ⟨h1, rfl⟩ := gSet_ok e
      exact q _ H F (FLe.refl F) (rel.setFro rp h1) ⟨List.length_set, fun j hj => List.getElem?_set_ne fun z => hj (by simp [z])⟩
abbrev SGs := List D → Env → R Unit
def tGs (G : Gx) (W : WX) (js : List Nat) (s : SGs) : TGs := fun vs σ H Q => ∃ ds ρ F Rv, ∃ io : Io G.ex.tabs, Rel G.K io Rv ρ F σ H ∧ Rps G.K F vs ds ∧ match s ds ρ with
  | .ok _ ρ' => ∀ σ' H' F', FLe F F' → Rel G.K io Rv ρ' F' σ' H' → Keeps js σ σ' → Q σ' H'
  | .exc x ρ' => XPost G W io Rv F ρ' x
  | .stuck => False
abbrev DGs (G : Gx) (X : Cx) (W : WX) (js : List Nat) (e : List Expr) (s : SGs) : Prop := PGs X e (tGs G W js s)
theorem wkGs {X : Cx} {e : List Expr} {t u : TGs} (h : PGs X e t) (w : ∀ v σ H Q, u v σ H Q → t v σ H Q) : PGs X e u := ⟨fun pins s σ H v vv Q I r q => h.run pins s σ H v vv Q I r (w v σ H Q q)⟩
def gN : SGs := fun ds ρ => match ds with
  | [] => .ok () ρ
  | _ => .stuck
def gC (g : SG) (gs : SGs) : SGs := fun ds ρ => match ds with
  | d :: ds => (g d ρ).bind fun _ ρ' => gs ds ρ'
  | [] => .stuck
theorem d_gN : DGs (GK X ex) X W [] [] gN := wkGs pgs_nil fun v σ H Q ⟨ds, ρ, F, Rv, io, rel, rp, q⟩ => by
  cases rp with
  | nil => exact ⟨rfl, q σ H F (FLe.refl F) rel ⟨rfl, fun _ _ => rfl⟩⟩
  | cons _ _ => exact q.elim
theorem d_gC {g : SG} {gs : SGs} {js ks : List Nat} (h : DG (GK X ex) X W js e g) (h2 : DGs (GK X ex) X W ks es gs) (hs : (assignEach (e :: es) X.env).map (·.2) = assign e X.env :: (assignEach es X.env).map (·.2) := by rfl) : DGs (GK X ex) X W (js ++ ks) (e :: es) (gC g gs) :=
  wkGs (pgs_cons h h2 hs) fun vs σ H Q ⟨ds, ρ, F, Rv, io, rel, rp, q⟩ => by
    cases rp with
    | nil => exact q.elim
    | @cons v vs d ds r rr =>
      refine ⟨v, vs, rfl, d, ρ, F, Rv, io, rel, r, ?_⟩
      have q : (match (g d ρ).bind fun _ ρ' => gs ds ρ' with | .ok _ ρ' => ∀ σ' H' F', FLe F F' → Rel X.K io Rv ρ' F' σ' H' → Keeps (js ++ ks) σ σ' → Q σ' H' | .exc x ρ' => XPost (GK X ex) W io Rv F ρ' x | .stuck => False) := q
      cases e : g d ρ with
      | stuck => rw [e] at q; exact q.elim
      | exc x ρ' => rw [e] at q; exact q
      | ok u ρ' =>
        rw [e, R.bind_ok] at q
        refine fun σ' H' F' le rel' hj => ⟨ds, ρ', F', Rv, io, rel', rr.mono le, ?_⟩
        cases e2 : gs ds ρ' with
        | stuck => rw [e2] at q; exact q.elim
        | exc x ρ'' => rw [e2] at q; exact XPost.le q le
        | ok u ρ'' => rw [e2] at q; exact fun σ2 H2 F2 le2 rel2 hj2 => q σ2 H2 F2 (le.trans le2) rel2 ⟨hj2.1.trans hj.1, fun j hjk => (hj2.2 j fun z => hjk (List.mem_append_right _ z)).trans (hj.2 j fun z => hjk (List.mem_append_left _ z))⟩
/-- (a, b, ..): of a tuple or of a list -/
def gTup' (n : Nat) (gs : SGs) : SG := fun d ρ => match d with
  | .tup ds => if ds.length = n then gs ds ρ else .stuck
  | .lst ds => if ds.length = n then gs ds ρ else .stuck
  | .arg ds => if ds.length = n then gs ds ρ else .stuck
  | _ => .stuck
theorem pg_both {k n : Nat} {t : TGs} (hc : X.calm = true) (h : PGs X es t) (hn : (assignEach es X.env).length = n) (hst : (assignEach es X.env).findIdx? (·.1) = none) :
    PG X (.Tuple es k pos) (fun v σ H Q => gTup X.K n t v σ H Q ∨ gUnl X.K n t v σ H Q) :=
  ⟨fun pins s σ H v u Q I r hw => hw.elim (fun hw => (pg_tup hc h hn hst).run pins s σ H v u Q I r hw) fun hw => (pg_unl hc h hn hst).run pins s σ H v u Q I r hw⟩
theorem d_gTup {k n : Nat} {gs : SGs} {js : List Nat} (hc : X.calm = true) (h : DGs (GK X ex) X W js es gs) (hn : (assignEach es X.env).length = n := by rfl) (hst : (assignEach es X.env).findIdx? (·.1) = none := by rfl) : DG (GK X ex) X W js (.Tuple es k pos) (gTup' n gs) :=
  wkG (pg_both hc h hn hst) fun v σ H Q ⟨d, ρ, F, Rv, io, rel, rp, q⟩ => by
    cases d with
    | tup ds =>
      obtain ⟨a, xs, rfl, t, r⟩ := Vw.sqT (F := F) rel.fH (.inl rp)
      have q : (match (if ds.length = n then gs ds ρ else .stuck) with | .ok _ ρ' => ∀ σ' H' F', FLe F F' → Rel X.K io Rv ρ' F' σ' H' → Keeps js σ σ' → Q σ' H' | .exc x ρ' => XPost (GK X ex) W io Rv F ρ' x | .stuck => False) := q
      by_cases hl : ds.length = n
      · rw [if_pos hl] at q
        exact .inl ⟨a, xs, rfl, t, by rw [r.length]; exact hl, ds, ρ, F, Rv, io, rel, r, q⟩
      · rw [if_neg hl] at q; exact q.elim
    | arg ds =>
      obtain ⟨a, xs, rfl, t, r⟩ : ∃ a xs, v = .ref a ∧ SqT X.K F a xs ∧ Rps X.K F xs ds := by cases rp with | arg t r => exact ⟨_, _, rfl, t, r⟩
      have q : (match (if ds.length = n then gs ds ρ else .stuck) with | .ok _ ρ' => ∀ σ' H' F', FLe F F' → Rel X.K io Rv ρ' F' σ' H' → Keeps js σ σ' → Q σ' H' | .exc x ρ' => XPost (GK X ex) W io Rv F ρ' x | .stuck => False) := q
      by_cases hl : ds.length = n
      · rw [if_pos hl] at q
        exact .inl ⟨a, xs, rfl, rel.fH.sqT t, by rw [r.length]; exact hl, ds, ρ, F, Rv, io, rel, r, q⟩
      · rw [if_neg hl] at q; exact q.elim
    | lst ds =>
      obtain ⟨a, xs, rfl, t, r⟩ := Vw.lst (F := F) rel.fH (.inl rp)
      have q : (match (if ds.length = n then gs ds ρ else .stuck) with | .ok _ ρ' => ∀ σ' H' F', FLe F F' → Rel X.K io Rv ρ' F' σ' H' → Keeps js σ σ' → Q σ' H' | .exc x ρ' => XPost (GK X ex) W io Rv F ρ' x | .stuck => False) := q
      by_cases hl : ds.length = n
      · rw [if_pos hl] at q
        exact .inr ⟨a, xs, rfl, SqL.of t, by rw [r.length]; exact hl, ds, ρ, F, Rv, io, rel, r, q⟩
      · rw [if_neg hl] at q; exact q.elim
    | _ => exact q.elim

/-! ### comprehensions -/
def wipeE (ρ : Env) : List Nat → Env
  | [] => ρ
  | v :: vs => (wipeE ρ vs).set v .no
/-- the cells of the block's own names as they were -/
def backE (ρ0 ρ : Env) : List Nat → Env
  | [] => ρ
  | v :: vs => match ρ0[v]? with
    | some c => (backE ρ0 ρ vs).set v c
    | none => backE ρ0 ρ vs
def plainAt (ρ : Env) (vs : List Nat) : Bool := vs.all fun v => match ρ[v]? with
  | some .no => true
  | some (.fro _) => true
  | _ => false
def compGo (vs : List Nat) (g : SG) (t : ST) (s : SE) : List D → Env → R (List D)
  | [], ρ => .ok [] ρ
  | d :: ds, ρ => (g d ρ).bind fun _ ρ1 => (t ρ1).bind fun k ρ2 => match k with
    | true => (s ρ2).bind fun z ρ3 => if plainAt ρ3 vs = true then (compGo vs g t s ds (wipeE ρ3 vs)).bind fun zs ρ4 => .ok (z :: zs) ρ4 else .stuck
    | false => if plainAt ρ2 vs = true then compGo vs g t s ds (wipeE ρ2 vs) else .stuck
def noX {α : Type} : R α → R α
  | .ok a ρ => .ok a ρ
  | _ => .stuck
def sComp (vs : List Nat) (it : SA) (g : SG) (t : ST) (s : SE) : SE := fun ρ => (it ρ).bind fun ds ρ1 =>
  if plainAt ρ1 vs = true ∧ ds.length ≤ sizeLine then (noX (compGo vs g t s ds (wipeE ρ1 vs))).bind fun zs ρ2 => .ok (.lst zs) (backE ρ1 ρ2 vs) else .stuck
abbrev W0 : WX := fun _ _ _ _ => False

theorem wipe_get {σ : L2.St} {i : Nat} : ∀ vs : List Nat, (wipe σ vs)[i]? = if i ∈ vs then (σ[i]?).map fun _ => none else σ[i]?
  | [] => by simp [wipe]
  | v :: vs => by
    have ih := wipe_get (σ := σ) (i := i) vs
    unfold wipe
    rw [List.getElem?_set, wipe_length]
    by_cases h : v = i
    · subst h
      rw [if_pos rfl, if_pos (show v ∈ v :: vs from List.mem_cons_self)]
      by_cases hl : v < σ.length
      · rw [if_pos hl]; simp [hl]
      · rw [if_neg hl]; rw [List.getElem?_eq_none (by omega)]; rfl
    · rw [if_neg h, ih]
      by_cases h2 : i ∈ vs
      · rw [if_pos h2, if_pos (List.mem_cons_of_mem _ h2)]
      · rw [if_neg h2, if_neg (by simp only [List.mem_cons, not_or]; exact ⟨fun z => h z.symm, h2⟩)]
theorem wipe_same {σ σ' : L2.St} {vs : List Nat} (hl : σ'.length = σ.length) (h : ∀ j, j ∉ vs → σ'[j]? = (wipe σ vs)[j]?) : wipe σ' vs = wipe σ vs := by
  refine List.ext_getElem? fun j => ?_
  rw [wipe_get, wipe_get]
  by_cases hj : j ∈ vs
  · rw [if_pos hj, if_pos hj]
    by_cases hz : j < σ.length
    · rw [List.getElem?_eq_getElem (by omega), List.getElem?_eq_getElem hz]; rfl
    · rw [List.getElem?_eq_none (by omega), List.getElem?_eq_none (by omega)]
  · have q := h j hj
    rw [wipe_get, if_neg hj] at q
    rw [if_neg hj, if_neg hj, q]
theorem wipeE_len {ρ : Env} : ∀ vs : List Nat, (wipeE ρ vs).length = ρ.length
  | [] => rfl
  | v :: vs => by unfold wipeE; rw [List.length_set]; exact wipeE_len vs
theorem wipeE_get {ρ : Env} {i : Nat} : ∀ vs : List Nat, (wipeE ρ vs)[i]? = if i ∈ vs then (ρ[i]?).map fun _ => Cell.no else ρ[i]?
  | [] => by simp [wipeE]
  | v :: vs => by
    have ih := wipeE_get (ρ := ρ) (i := i) vs
    unfold wipeE
    rw [List.getElem?_set, wipeE_len]
    by_cases h : v = i
    · subst h
      rw [if_pos rfl, if_pos (show v ∈ v :: vs from List.mem_cons_self)]
      by_cases hl : v < ρ.length
      · rw [if_pos hl]; simp [hl]
      · rw [if_neg hl]; rw [List.getElem?_eq_none (by omega)]; rfl
    · rw [if_neg h, ih]
      by_cases h2 : i ∈ vs
      · rw [if_pos h2, if_pos (List.mem_cons_of_mem _ h2)]
      · rw [if_neg h2, if_neg (by simp only [List.mem_cons, not_or]; exact ⟨fun z => h z.symm, h2⟩)]
theorem backE_get {ρ0 ρ : Env} {i : Nat} (hl : ρ0.length = ρ.length) : ∀ vs : List Nat, (backE ρ0 ρ vs).length = ρ.length ∧ (backE ρ0 ρ vs)[i]? = if i ∈ vs then ρ0[i]? else ρ[i]?
  | [] => by simp [backE]
  | v :: vs => by
    obtain ⟨hlen, ih⟩ := backE_get (ρ0 := ρ0) (ρ := ρ) (i := i) hl vs
    unfold backE
    cases e : ρ0[v]? with
    | none =>
      refine ⟨hlen, ?_⟩
      show (backE ρ0 ρ vs)[i]? = _
      rw [ih]
      by_cases h : v = i
      · subst h
        rw [if_pos (show v ∈ v :: vs by simp)]
        have hv := List.getElem?_eq_none_iff.mp e
        by_cases h2 : v ∈ vs
        · rw [if_pos h2]
        · rw [if_neg h2, e, List.getElem?_eq_none (by omega)]
      · by_cases h2 : i ∈ vs
        · rw [if_pos h2, if_pos (List.mem_cons_of_mem _ h2)]
        · rw [if_neg h2, if_neg (by simp only [List.mem_cons, not_or]; exact ⟨fun z => h z.symm, h2⟩)]
    | some c =>
      refine ⟨by show ((backE ρ0 ρ vs).set v c).length = _; rw [List.length_set, hlen], ?_⟩
      show ((backE ρ0 ρ vs).set v c)[i]? = _
      rw [List.getElem?_set, hlen]
      have hv := (List.getElem?_eq_some_iff.mp e).1
      by_cases h : v = i
      · subst h
        rw [if_pos rfl, if_pos (show v < ρ.length by omega), if_pos (show v ∈ v :: vs from List.mem_cons_self), e]
      · rw [if_neg h, ih]
        by_cases h2 : i ∈ vs
        · rw [if_pos h2, if_pos (List.mem_cons_of_mem _ h2)]
        · rw [if_neg h2, if_neg (by simp only [List.mem_cons, not_or]; exact ⟨fun z => h z.symm, h2⟩)]
theorem plain_at {ρ : Env} {vs : List Nat} (h : plainAt ρ vs = true) {v : Nat} (hv : v ∈ vs) {c : Cell} (e : ρ[v]? = some c) : c = .no ∨ ∃ d, c = .fro d := by
  have q := List.all_eq_true.mp h v hv
  rw [e] at q
  cases c with
  | no => exact .inl rfl
  | fro d => exact .inr ⟨d, rfl⟩
  | own d => cases q
  | io d => cases q
section
variable {K : PySem.W.Frag} {T : List (Addr × Str)} {io : Io T} {Rv : Hp} {ρ ρ0 : Env} {F F0 : Hp} {σ : L2.St} {H H0 : Hp} {vs : List Nat}
theorem Rel.wiped (r : Rel K io Rv ρ F σ H) (h : plainAt ρ vs = true) : Rel K io Rv (wipeE ρ vs) F (wipe σ vs) H := by
  have same : ∀ {i c}, (wipeE ρ vs)[i]? = some c → c.held.isSome = true ∨ (∃ d, c = .fro d) → i ∉ vs ∧ ρ[i]? = some c := fun {i c} e q => by
    rw [wipeE_get] at e
    by_cases hi : i ∈ vs
    · rw [if_pos hi] at e
      cases e2 : ρ[i]? with
      | none => rw [e2] at e; cases e
      | some c' => rw [e2] at e; cases e; rcases q with q | ⟨d, q⟩ <;> cases q
    · rw [if_neg hi] at e; exact ⟨hi, e⟩
  have slot : ∀ {i}, i ∉ vs → (wipe σ vs)[i]? = σ[i]? := fun {i} hi => by rw [wipe_get, if_neg hi]
  refine ⟨r.fH, r.rH, r.dj, by rw [wipeE_len, wipe_length]; exact r.len, fun i c v e1 e2 => ?_, fun i j ci cj di dj p e1 e2 h1 h2 s1 s2 => ?_, fun ip hip => ?_, (fun i d e => ?_), r.tab, r.nt⟩
  · cases c with
    | no => trivial
    | _ =>
      obtain ⟨n, e⟩ := same e1 (by first | exact .inl rfl | exact .inr ⟨_, rfl⟩)
      rw [slot n] at e2
      exact r.cell i _ v e e2
  · obtain ⟨n1, g1⟩ := same e1 (.inl (by rw [h1]; rfl))
    obtain ⟨n2, g2⟩ := same e2 (.inl (by rw [h2]; rfl))
    rw [slot n1] at s1
    rw [slot n2] at s2
    exact r.inj i j ci cj di dj p g1 g2 h1 h2 s1 s2
  · obtain ⟨⟨d, e1⟩, e2⟩ := r.ios ip hip
    have n : ip.1 ∉ vs := fun hv => by rcases plain_at h hv e1 with z | ⟨_, z⟩ <;> cases z
    exact ⟨⟨d, by rw [wipeE_get, if_neg n]; exact e1⟩, by rw [slot n]; exact e2⟩
  · obtain ⟨n, e⟩ := same e (.inl rfl)
    exact r.ioc i d e
theorem Rel.back (r0 : Rel K io Rv ρ0 F0 σ H0) (r : Rel K io Rv ρ F (wipe σ vs) H) (le : FLe F0 F) (h : plainAt ρ0 vs = true) : Rel K io Rv (backE ρ0 ρ vs) F σ H := by
  have hl : ρ0.length = ρ.length := by rw [r0.len, r.len, wipe_length]
  have slot : ∀ {i}, i ∉ vs → (wipe σ vs)[i]? = σ[i]? := fun {i} hi => by rw [wipe_get, if_neg hi]
  have held : ∀ {i c}, (backE ρ0 ρ vs)[i]? = some c → c.held.isSome = true → i ∉ vs ∧ ρ[i]? = some c := fun {i c} e q => by
    rw [(backE_get hl vs).2] at e
    by_cases hi : i ∈ vs
    · rw [if_pos hi] at e
      rcases plain_at h hi e with z | ⟨_, z⟩ <;> (subst z; cases q)
    · rw [if_neg hi] at e; exact ⟨hi, e⟩
  refine ⟨r.fH, r.rH, r.dj, by rw [(backE_get (i := 0) hl vs).1, r.len, wipe_length], fun i c v e1 e2 => ?_, fun i j ci cj di dj p e1 e2 h1 h2 s1 s2 => ?_, fun ip hip => ?_, (fun i d e => ?_), r.tab, r.nt⟩
  · rw [(backE_get hl vs).2] at e1
    by_cases hi : i ∈ vs
    · rw [if_pos hi] at e1
      have q := r0.cell i c v e1 e2
      rcases plain_at h hi e1 with z | ⟨d, z⟩
      · subst z; trivial
      · subst z; obtain ⟨x, e, q⟩ := q; exact ⟨x, e, q.mono le⟩
    · rw [if_neg hi] at e1
      exact r.cell i c v e1 (by rw [slot hi]; exact e2)
  · obtain ⟨n1, g1⟩ := held e1 (by rw [h1]; rfl)
    obtain ⟨n2, g2⟩ := held e2 (by rw [h2]; rfl)
    exact r.inj i j ci cj di dj p g1 g2 h1 h2 (by rw [slot n1]; exact s1) (by rw [slot n2]; exact s2)
  · obtain ⟨⟨d, e1⟩, e2⟩ := r0.ios ip hip
    have n : ip.1 ∉ vs := fun hv => by rcases plain_at h hv e1 with z | ⟨_, z⟩ <;> cases z
    obtain ⟨⟨d', e3⟩, _⟩ := r.ios ip hip
    exact ⟨⟨d', by rw [(backE_get hl vs).2, if_neg n]; exact e3⟩, e2⟩
  · obtain ⟨n, e⟩ := held e rfl
    exact r.ioc i d e
/-- a new object that is kept -/
theorem Rel.resAdd (r : Rel K io Rv ρ F σ H) {D : Addr} (n : H D = none) (o : HO) (no : ∀ ps, o ≠ .tbl ps := by intro ps z; cases z) (nx : ∀ q, o ≠ LamX.CodeO D q := by intro ps z; unfold LamX.CodeO at z; cases z) : Rel K io (upd Rv D o) ρ F σ (upd H D o) := by
  have r2 := r.newH n o
  refine ⟨r2.fH, fun a u e => ?_, fun a u e => ?_, r2.len, fun i c v e1 e2 => ?_, r2.inj, r2.ios, r2.ioc, fun t ht => let q := r2.tab t ht; let ⟨ps, ep⟩ := (r.tab t ht).tbl; q.mv q.1 (by rw [upd_ne (ne_of_none ep n)]; exact q.2.1) (fun _ e => e) (FLe.refl F) (q.nR.upd no nx), r2.nt⟩
  · by_cases z : a = D
    · subst z; rw [upd_same] at e ⊢; exact e
    · rw [upd_ne z] at e ⊢; exact r.rH a u e
  · rw [upd_ne (fun z => by subst z; rw [r.fH.noneOf n] at e; cases e)]
    exact r.dj a u e
  · have q := r2.cell i c v e1 e2
    have own : ∀ {p d}, v = some (.ref p) → OwnAt K F Rv (upd H D o) p d → c.held = some d → OwnAt K F (upd Rv D o) (upd H D o) p d := fun {p d} hv w hh => by
      refine ⟨w.nF, ?_, w.at_⟩
      rw [upd_ne]
      · exact w.nR
      · intro z
        subst z
        subst hv
        obtain ⟨p', e3, w'⟩ := r.heldAt e1 hh
        rw [e2] at e3
        cases e3
        obtain ⟨o', e4, _⟩ := w'.at_
        rw [n] at e4
        cases e4
    cases c with
    | no => trivial
    | fro d => exact q
    | own d => obtain ⟨p, e, q⟩ := q; exact ⟨p, e, own e q rfl⟩
    | io d => obtain ⟨p, e, q⟩ := q; exact ⟨p, e, own e q rfl⟩
theorem Rel.resPut {D : Addr} {o o' : HO} (r : Rel K io (upd Rv D o) ρ F σ H) (no : ∀ ps, o' ≠ .tbl ps := by intro ps z; cases z) (nx : ∀ q, o' ≠ LamX.CodeO D q := by intro ps z; unfold LamX.CodeO at z; cases z) : Rel K io (upd Rv D o') ρ F σ (upd H D o') := by
  have nF : ∀ a u, F a = some u → a ≠ D := fun a u e z => by subst z; have q := r.dj a u e; rw [upd_same] at q; cases q
  refine ⟨fun a u e => by rw [upd_ne (nF a u e)]; exact r.fH a u e, fun a u e => ?_, fun a u e => ?_, r.len, fun i c v e1 e2 => ?_, r.inj, r.ios, r.ioc, fun t ht => let q := r.tab t ht; have ne : t.1 ≠ D := (fun z => by have w := q.2.1; rw [z, upd_same] at w; cases w); q.mv q.1 (by have w := q.2.1; rw [upd_ne ne] at w; rw [upd_ne ne]; exact w) (fun _ e => by rw [upd_ne ne]; exact e) (FLe.refl F) ⟨fun a ps e => by
    by_cases z : a = D
    · subst z; rw [upd_same] at e; exact no ps (Option.some.inj e)
    · rw [upd_ne z] at e; exact q.nR.1 a ps (by rw [upd_ne z]; exact e), fun a ps e => by
    by_cases z : a = D
    · subst z; rw [upd_same] at e; exact nx ps (Option.some.inj e)
    · rw [upd_ne z] at e; exact q.nR.2 a ps (by rw [upd_ne z]; exact e)⟩, r.nt⟩
  · by_cases z : a = D
    · subst z; rw [upd_same] at e ⊢; exact e
    · rw [upd_ne z] at e ⊢; exact r.rH a u (by rw [upd_ne z]; exact e)
  · have q := r.dj a u e
    rw [upd_ne (nF a u e)] at q ⊢
    exact q
  · have q := r.cell i c v e1 e2
    have own : ∀ {p d}, OwnAt K F (upd Rv D o) H p d → OwnAt K F (upd Rv D o') (upd H D o') p d := fun {p d} w => by
      have ne : p ≠ D := fun z => by subst z; have q := w.nR; rw [upd_same] at q; cases q
      obtain ⟨ob, e, w3⟩ := w.at_
      exact ⟨w.nF, by rw [upd_ne ne]; have q := w.nR; rw [upd_ne ne] at q; exact q, ob, by rw [upd_ne ne]; exact e, w3⟩
    cases c with
    | no => trivial
    | fro d => exact q
    | own d => obtain ⟨p, e, q⟩ := q; exact ⟨p, e, own q⟩
    | io d => obtain ⟨p, e, q⟩ := q; exact ⟨p, e, own q⟩
theorem Rel.resDrop {D : Addr} {o : HO} (r : Rel K io (upd Rv D o) ρ F σ H) (n : Rv D = none) : Rel K io Rv ρ F σ H ∧ F D = none ∧ H D = some o ∧ Loose ρ σ D := by
  have sub : ∀ a u, Rv a = some u → a ≠ D := fun a u e z => by subst z; rw [n] at e; cases e
  have own : ∀ {p d}, OwnAt K F (upd Rv D o) H p d → p ≠ D ∧ OwnAt K F Rv H p d := fun {p d} w => by
    have ne : p ≠ D := fun z => by subst z; have q := w.nR; rw [upd_same] at q; cases q
    exact ⟨ne, w.nF, by have q := w.nR; rw [upd_ne ne] at q; exact q, w.at_⟩
  refine ⟨⟨r.fH, fun a u e => r.rH a u (by rw [upd_ne (sub a u e)]; exact e), fun a u e => ?_, r.len, fun i c v e1 e2 => ?_, r.inj, r.ios, r.ioc, fun t ht => let q := r.tab t ht; have ne : t.1 ≠ D := (fun z => by have w := q.2.1; rw [z, upd_same] at w; cases w); q.mv q.1 (by have w := q.2.1; rw [upd_ne ne] at w; exact w) (fun _ e => e) (FLe.refl F) ⟨fun a ps e => q.nR.1 a ps (by rw [upd_ne (sub a _ e)]; exact e), fun a ps e => q.nR.2 a ps (by rw [upd_ne (sub a _ e)]; exact e)⟩, r.nt⟩, ?_, r.rH D o upd_same, fun i c d e1 e2 e3 => ?_⟩
  · have q := r.dj a u e
    cases e2 : Rv a with
    | none => rfl
    | some w => rw [upd_ne (sub a w e2), e2] at q; cases q
  · have q := r.cell i c v e1 e2
    cases c with
    | no => trivial
    | fro d => exact q
    | own d => obtain ⟨p, e, q⟩ := q; exact ⟨p, e, (own q).2⟩
    | io d => obtain ⟨p, e, q⟩ := q; exact ⟨p, e, (own q).2⟩
  · cases e : F D with
    | none => rfl
    | some u => have q := r.dj D u e; rw [upd_same] at q; cases q
  · obtain ⟨p, e4, w⟩ := r.heldAt e1 e2
    rw [e3] at e4
    cases e4
    exact (own w).1 rfl
end
end
end Dt

set_option Elab.async false
set_option linter.all false
set_option maxRecDepth 100000
set_option maxHeartbeats 2000000
/-! The judgements' rules: comprehensions, statements, loops, calls, defs. -/
namespace Dt
open PySem PySem.Spec PyProof.Rows L2

theorem drop_at {α : Type} {l : List α} {i : Nat} (h : i < l.length) : ∃ x, l[i]? = some x ∧ l.drop i = x :: l.drop (i + 1) := ⟨l[i], by simp [h], List.drop_eq_getElem_cons h⟩
section
variable {ex : Exx} {X : Cx} {W : WX} {a b c e tg : Expr} {es : List Expr} {pos p : Pos} {sa sb sc : SO} {ea eb : SE} {sB : SB} {sA : SA} {x : Str} {id : String}

theorem comp_core {G : Gx} {σ : L2.St} {H : Hp} {Q : VK} {it : SA} {g : SG} {t : ST} {s : SE} {js vs : List Nat} (hjs : js.all (fun j => vs.contains j) = true) (h : tF G W (sComp vs it g t s) σ H Q) :
    tLc (tI G W it) (tG G W0 js g) (tT G W0 t) (tE G W0 s) vs σ H Q := by
    obtain ⟨ρ, F, Rv, io, rel, q⟩ := h
    refine ⟨ρ, F, Rv, io, rel, ?_⟩
    unfold sComp at q
    cases e : it ρ with
    | stuck => rw [e] at q; exact q.elim
    | exc x ρ' => rw [e] at q; exact q
    | ok ds ρ1 =>
      rw [e, R.bind_ok] at q
      intro J H1 F1 le1 rel1 J1 Dl hD
      by_cases hp : plainAt ρ1 vs = true ∧ ds.length ≤ sizeLine
      case neg => rw [if_neg hp] at q; exact q.elim
      rw [if_pos hp] at q
      obtain ⟨hpl, hz⟩ := hp
      cases e2 : compGo vs g t s ds (wipeE ρ1 vs) with
      | stuck => rw [e2] at q; exact q.elim
      | exc x ρ' => rw [e2] at q; exact q.elim
      | ok zs ρe =>
        rw [e2] at q
        have nR : Rv Dl = none := rel1.rH.noneOf hD
        refine ⟨fun i m H => m = ds.length - i ∧ i ≤ ds.length ∧ ∃ (ρi : Env) (Fi : Hp) (acc : List V) (dn rest : List D), FLe F1 Fi ∧ Rel G.K io (upd Rv Dl (.lst acc)) ρi Fi (wipe σ vs) H ∧ acc.length ≤ i ∧ Rps G.K Fi acc dn ∧
          compGo vs g t s (ds.drop i) ρi = .ok rest ρe ∧ dn ++ rest = zs, ⟨ds.length, rfl.trans (Nat.sub_zero _).symm, Nat.zero_le _, wipeE ρ1 vs, F1, [], [], zs, FLe.refl _, (rel1.wiped hpl).resAdd hD _, Nat.le_refl _, .nil, e2, rfl⟩, ?_⟩
        rintro i m H ⟨rfl, hi, ρi, Fi, acc, dn, rest, lei, reli, hacc, racc, hgo, hzs⟩
        by_cases hlt : i < ds.length
        · obtain ⟨d, hd, hdr⟩ := drop_at hlt
          rw [hdr] at hgo
          unfold compGo at hgo
          refine .inr ⟨J1.go i Fi H lei reli.fH hlt, fun H' => ∃ (ρ2 : Env) (F2 : Hp) (acc2 : List V) (dn2 rest2 : List D), FLe F1 F2 ∧ Rel G.K io (upd Rv Dl (.lst acc2)) ρ2 F2 (wipe σ vs) H' ∧ acc2.length ≤ i + 1 ∧ Rps G.K F2 acc2 dn2 ∧
              compGo vs g t s (ds.drop (i + 1)) ρ2 = .ok rest2 ρe ∧ dn2 ++ rest2 = zs, fun H' z => ⟨ds.length - (i + 1), by omega, rfl, hlt, z⟩, fun xv H' y => ?_⟩
          obtain ⟨F2, nw, rp⟩ := J1.yld i Fi H H' xv d lei reli.fH hd y
          have rel2 := reli.after nw
          refine ⟨d, ρi, F2, _, io, rel2, rp, ?_⟩
          cases e3 : g d ρi with
          | stuck => rw [e3] at hgo; cases hgo
          | exc x ρ' => rw [e3] at hgo; cases hgo
          | ok u ρ3 =>
            rw [e3, R.bind_ok] at hgo
            intro σ3 H3 F3 le3 rel3 hj3
            have hjs' : ∀ j, j ∉ vs → σ3[j]? = (wipe σ vs)[j]? := fun j hj => hj3.2 j fun z => hj (by
              have w := List.all_eq_true.mp hjs j z
              simpa using w)
            have hl3 : σ3.length = σ.length := hj3.1.trans (wipe_length σ vs)
            have hw := wipe_same hl3 hjs'
            refine ⟨hw, ρ3, F3, _, io, rel3, ?_⟩
            cases e4 : t ρ3 with
            | stuck => rw [e4] at hgo; cases hgo
            | exc x ρ' => rw [e4] at hgo; cases hgo
            | ok k ρ4 =>
              rw [e4, R.bind_ok] at hgo
              intro H4 F4 le4 rel4
              cases k with
              | false =>
                refine iteF ?_
                have hgo : (if plainAt ρ4 vs = true then compGo vs g t s (ds.drop (i + 1)) (wipeE ρ4 vs) else .stuck) = R.ok rest ρe := hgo
                by_cases hp4 : plainAt ρ4 vs = true
                · rw [if_pos hp4] at hgo
                  have le := (nw.f.trans le3).trans le4
                  refine ⟨wipeE ρ4 vs, F4, acc, dn, rest, lei.trans le, ?_, Nat.le_succ_of_le hacc, racc.mono le, hgo, hzs⟩
                  have r := rel4.wiped hp4
                  rw [hw] at r
                  exact r
                · rw [if_neg hp4] at hgo; cases hgo
              | true =>
                refine iteT ⟨ρ4, F4, _, io, rel4, ?_⟩
                have hgo : ((s ρ4).bind fun z ρ3 => if plainAt ρ3 vs = true then (compGo vs g t s (ds.drop (i + 1)) (wipeE ρ3 vs)).bind fun zs ρ4 => .ok (z :: zs) ρ4 else .stuck) = R.ok rest ρe := hgo
                cases e5 : s ρ4 with
                | stuck => rw [e5] at hgo; cases hgo
                | exc x ρ' => rw [e5] at hgo; cases hgo
                | ok z ρ5 =>
                  rw [e5, R.bind_ok] at hgo
                  intro yv H5 F5 le5 rel5 rp5
                  by_cases hp5 : plainAt ρ5 vs = true
                  · rw [if_pos hp5] at hgo
                    cases e6 : compGo vs g t s (ds.drop (i + 1)) (wipeE ρ5 vs) with
                    | stuck => rw [e6] at hgo; cases hgo
                    | exc x ρ' => rw [e6] at hgo; cases hgo
                    | ok rest' ρ6 =>
                      rw [e6, R.bind_ok] at hgo
                      have eq1 : z :: rest' = rest ∧ ρ6 = ρe := by cases hgo; exact ⟨rfl, rfl⟩
                      obtain ⟨rfl, rfl⟩ := eq1
                      have le := ((nw.f.trans le3).trans le4).trans le5
                      refine ⟨acc, rel5.rH Dl _ upd_same, Nat.lt_of_le_of_lt hacc (Nat.lt_of_lt_of_le hlt hz), wipeE ρ5 vs, F5, acc ++ [yv], dn ++ [z], rest', lei.trans le, ?_, by rw [List.length_append]; simpa using hacc, (racc.mono le).append (.cons rp5 .nil), e6, by simp [← hzs]⟩
                      have r := rel5.wiped hp5
                      rw [hw] at r
                      exact r.resPut
                  · rw [if_neg hp5] at hgo; cases hgo
        · have hi2 : i = ds.length := by omega
          subst hi2
          rw [List.drop_eq_nil_of_le (Nat.le_refl _)] at hgo
          unfold compGo at hgo
          cases hgo
          refine .inl ⟨J1.stop Fi H lei reli.fH, ?_⟩
          obtain ⟨relD, n1, n2, lo⟩ := reli.resDrop nR
          have relB := rel1.back (vs := vs) relD lei hpl
          refine q Dl H Fi (le1.trans lei) relB ⟨n1, nR, _, n2, acc, rfl, ?_⟩ fun i c d e1 e2 e3 => ?_
          · rw [List.append_nil] at hzs
            subst hzs
            exact racc
          · have hlen : ρ1.length = ρe.length := by rw [rel1.len, relD.len, wipe_length]
            rw [(backE_get hlen vs).2] at e1
            by_cases hi : i ∈ vs
            · rw [if_pos hi] at e1
              rcases plain_at hpl hi e1 with z | ⟨_, z⟩ <;> (subst z; cases e2)
            · rw [if_neg hi] at e1
              exact lo i c d e1 e2 (by rw [wipe_get, if_neg hi]; exact e3)
theorem d_compF {elt iter : Expr} {ifs : List Expr} {scope : Scope} {own : List (Str × Nat)} {it : SA} {g : SG} {t : ST} {s : SE} {js : List Nat} (hu : At X W) (hi : DI (GK X ex) X W tg iter it) (ok : BlkOk X.N X.env.scope scope own)
    (hg : ∀ (s : Shared) (H : Hp) (C : Addr) (cl : List (Str × Addr)) (fp : List Addr), DG (GK X ex) (X.blk s H scope (compEnvC scope cl C X.env) fp) W0 js tg g)
    (ht : ∀ (s : Shared) (H : Hp) (C : Addr) (cl : List (Str × Addr)) (fp : List Addr), PTs (X.blk s H scope (compEnvC scope cl C X.env) fp) ifs (tT (GK X ex) W0 t))
    (he : ∀ (s' : Shared) (H : Hp) (C : Addr) (cl : List (Str × Addr)) (fp : List Addr), DE (GK X ex) (X.blk s' H scope (compEnvC scope cl C X.env) fp) W0 elt s) (hjs : js.all (fun j => (own.map (·.2)).contains j) = true) (hs : ∀ x, foldedSetIterable iter X.env x = pure x := by intro _; rfl) :
    DF (GK X ex) X W (.ListComp elt [⟨tg, iter, ifs, 0⟩] scope pos) (sComp (own.map (·.2)) it g t s) :=
  wkE (pe_lc hu.calm hu.nd hi ok hg ht he hs) fun σ H Q h => comp_core hjs h

/-! ### statements -/
def sAsg (g : SG) (s : SE) : SS := fun ρ => (s ρ).bind fun d ρ' => (g d ρ').bind fun _ ρ'' => .ok .nx ρ''
theorem asg_core {G : Gx} {σ : L2.St} {H : Hp} {D : Ends} {g : SG} {s : SE} {js : List Nat} (h : tS G W (sAsg g s) D σ H) : tE G W s σ H fun v H1 => tG G W js g v σ H1 D.nx := by
  obtain ⟨ρ, F, Rv, io, rel, q⟩ := h
  refine ⟨ρ, F, Rv, io, rel, ?_⟩
  unfold sAsg at q
  cases e : s ρ with
  | stuck => rw [e] at q; exact q.elim
  | exc x ρ' => rw [e] at q; exact q
  | ok d ρ' =>
    rw [e, R.bind_ok] at q
    intro v H' F' le rel' rp
    refine ⟨d, ρ', F', Rv, io, rel', rp, ?_⟩
    cases e2 : g d ρ' with
    | stuck => rw [e2] at q; exact q.elim
    | exc x ρ'' => rw [e2] at q; exact XPost.le q le
    | ok u ρ'' => rw [e2] at q; exact fun σ' H2 F2 le2 rel2 _ => q σ' H2 F2 (le.trans le2) rel2
theorem d_asg {g : SG} {js : List Nat} (he : DE (GK X ex) X W e ea) (hg : DG (GK X ex) X W js tg g) (hs : swapsWithSole [tg] e pos.line X.env = pure false := by rfl) (hw : swappedStores [tg] e X.env = pure none := by rfl)
    (h1 : (assignEach [tg] X.env).map (·.2) = [assign tg X.env] := by rfl) : DS (GK X ex) X W (.Assign [tg] e pos) (sAsg g ea) := wkS (ps_asg he hg hs hw h1) fun D σ H h => asg_core h
theorem d_setN {i : Nat} {pos' : Pos} (nd : X.N.Nodup) (hi : X.N[i]? = some x) (hx : Loc X.env.scope x) (he : DE (GK X ex) X W e ea) (hs : swapsWith e (some (.Name x pos')) pos.line X.env = pure false := by rfl) (hf : X.fn x = true ∨ X.env.scope.names.lookup x = some .local := by first | exact .inl rfl | exact .inr rfl | assumption) :
    DS (GK X ex) X W (.Assign [.Name x pos'] e pos) (sAsg (gSet i) ea) := wkS (ps_set nd hi hx he hs hf) fun D σ H h => tE_mono (asg_core (js := [i]) h) fun v H1 z => by
      obtain ⟨d, ρ, F, Rv, io, rel, rp, q⟩ := z
      show D.nx (σ.set i (some v)) H1
      cases e2 : gSet i d ρ with
      | stuck => rw [e2] at q; exact q.elim
      | exc x ρ'' => unfold gSet at e2; split at e2 <;> cases e2
      | ok u ρ'' =>
        rw [e2] at q
        obtain ⟨h1, rfl⟩ := gSet_ok e2
        exact q _ H1 F (FLe.refl F) (rel.setFro rp h1) ⟨List.length_set, fun j hj => List.getElem?_set_ne fun z => hj (by simp [z])⟩
theorem d_set {i : Nat} {pos' : Pos} (hu : At X W) (hi : X.N[i]? = some x) (hx : Loc X.env.scope x) (he : DE (GK X ex) X W e ea) (hs : swapsWith e (some (.Name x pos')) pos.line X.env = pure false := by rfl) (hf : X.fn x = true ∨ X.env.scope.names.lookup x = some .local := by first | exact .inl rfl | exact .inr rfl | assumption) :
    DS (GK X ex) X W (.Assign [.Name x pos'] e pos) (sAsg (gSet i) ea) := d_setN hu.nd hi hx he hs hf
/-- a new object becomes the variable's own -/
def gOwn (i : Nat) : SG := fun d ρ => match ρ[i]? with
  | some (.io _) => .stuck
  | none => .stuck
  | _ => .ok () (ρ.set i (.own d))
theorem gOwn_ok {ρ ρ' : Env} {i : Nat} {d : D} {u : Unit} (h : gOwn i d ρ = .ok u ρ') : (∀ e, ρ[i]? ≠ some (Cell.io e)) ∧ ρ' = ρ.set i (.own d) := by
  unfold gOwn at h
  split at h
  · cases h
  · cases h
  · rename_i h1 h2
    cases h
    exact ⟨fun e z => h1 e z, rfl⟩
theorem own_core {G : Gx} {σ : L2.St} {H : Hp} {D : Ends} {i : Nat} {s : SE} (h : tS G W (sAsg (gOwn i) s) D σ H) : tF G W s σ H fun v H1 => D.nx (σ.set i (some v)) H1 := by
  obtain ⟨ρ, F, Rv, io, rel, q⟩ := h
  refine ⟨ρ, F, Rv, io, rel, ?_⟩
  unfold sAsg at q
  cases e : s ρ with
  | stuck => rw [e] at q; exact q.elim
  | exc x ρ' => rw [e] at q; exact q
  | ok d ρ' =>
    rw [e, R.bind_ok] at q
    intro v H' F' le rel' ow lo
    cases e2 : gOwn i d ρ' with
    | stuck => rw [e2] at q; exact q.elim
    | exc x ρ'' => unfold gOwn at e2; split at e2 <;> cases e2
    | ok u ρ'' =>
      rw [e2] at q
      obtain ⟨h1, rfl⟩ := gOwn_ok e2
      exact q _ H' F' le (rel'.setOwn ow lo h1)
theorem d_setFN {i : Nat} {pos' : Pos} (nd : X.N.Nodup) (hi : X.N[i]? = some x) (hx : Loc X.env.scope x) (he : DF (GK X ex) X W e ea) (hs : swapsWith e (some (.Name x pos')) pos.line X.env = pure false := by rfl) (hf : X.fn x = true ∨ X.env.scope.names.lookup x = some .local := by first | exact .inl rfl | exact .inr rfl | assumption) :
    DS (GK X ex) X W (.Assign [.Name x pos'] e pos) (sAsg (gOwn i) ea) := wkS (ps_set nd hi hx he hs hf) fun D σ H h => own_core h
theorem d_setF {i : Nat} {pos' : Pos} (hu : At X W) (hi : X.N[i]? = some x) (hx : Loc X.env.scope x) (he : DF (GK X ex) X W e ea) (hs : swapsWith e (some (.Name x pos')) pos.line X.env = pure false := by rfl) (hf : X.fn x = true ∨ X.env.scope.names.lookup x = some .local := by first | exact .inl rfl | exact .inr rfl | assumption) :
    DS (GK X ex) X W (.Assign [.Name x pos'] e pos) (sAsg (gOwn i) ea) := d_setFN hu.nd hi hx he hs hf
/-- x = [..] on one line -/
theorem d_setComp {i : Nat} {pos' : Pos} {elt iter : Expr} {ifs : List Expr} {scope : Scope} {own : List (Str × Nat)} {it : SA} {g : SG} {t : ST} {s : SE} {js : List Nat} {cpos : Pos} (hu : At X W) (hy : X.N[i]? = some x) (hyl : X.env.scope.names.lookup x = some .local)
    (hsw : swapsWith (.ListComp elt [⟨tg, iter, ifs, 0⟩] scope cpos) (some (.Name x pos')) pos.line X.env = pure true) (hi : DI (GK X ex) X W tg iter it) (ok : BlkOk X.N X.env.scope scope own)
    (hg : ∀ (s : Shared) (H : Hp) (C : Addr) (cl : List (Str × Addr)) (fp : List Addr), DG (GK X ex) (X.blk s H scope (compEnvC scope cl C X.env) fp) W0 js tg g)
    (ht : ∀ (s : Shared) (H : Hp) (C : Addr) (cl : List (Str × Addr)) (fp : List Addr), PTs (X.blk s H scope (compEnvC scope cl C X.env) fp) ifs (tT (GK X ex) W0 t))
    (he : ∀ (s' : Shared) (H : Hp) (C : Addr) (cl : List (Str × Addr)) (fp : List Addr), DE (GK X ex) (X.blk s' H scope (compEnvC scope cl C X.env) fp) W0 elt s) (hjs : js.all (fun j => (own.map (·.2)).contains j) = true) (hs : ∀ x, foldedSetIterable iter X.env x = pure x := by intro _; rfl) :
    DS (GK X ex) X W (.Assign [.Name x pos'] (.ListComp elt [⟨tg, iter, ifs, 0⟩] scope cpos) pos) (sAsg (gOwn i) (sComp (own.map (·.2)) it g t s)) :=
  wkS (ps_setLc hu.calm hu.nd hy hyl hsw hi ok hg ht he hs) fun D σ H h => comp_core hjs (own_core h)
def sExpr (s : SE) : SS := fun ρ => (s ρ).bind fun _ ρ' => .ok .nx ρ'
theorem d_expr (he : DE (GK X ex) X W e ea) (hs : swapsWith e none pos.line X.env = pure false := by rfl) : DS (GK X ex) X W (.Expr e pos) (sExpr ea) := wkS (ps_expr he hs) fun D σ H ⟨ρ, F, Rv, io, rel, q⟩ => by
  refine ⟨ρ, F, Rv, io, rel, ?_⟩
  unfold sExpr at q
  cases e : ea ρ with
  | stuck => rw [e] at q; exact q.elim
  | exc x ρ' => rw [e] at q; exact q
  | ok d ρ' => rw [e] at q; exact fun v H' F' le rel' _ => q σ H' F' le rel'
def sRet (s : SE) : SS := fun ρ => (s ρ).bind fun d ρ' => .ok (.rt d) ρ'
theorem d_ret (he : DE (GK X ex) X W e ea) : DS (GK X ex) X W (.Return (some e) pos) (sRet ea) := wkS (ps_ret he) fun D σ H ⟨ρ, F, Rv, io, rel, q⟩ => by
  refine ⟨ρ, F, Rv, io, rel, ?_⟩
  unfold sRet at q
  cases e : ea ρ with
  | stuck => rw [e] at q; exact q.elim
  | exc x ρ' => rw [e] at q; exact q
  | ok d ρ' => rw [e] at q; exact fun v H' F' le rel' rp => q v σ H' F' le rel' rp
def sNx : SS := fun ρ => .ok .nx ρ
theorem d_pass : DS (GK X ex) X W (.Pass pos) sNx := wkS ps_pass fun D σ H ⟨ρ, F, Rv, io, rel, q⟩ => q σ H F (FLe.refl F) rel
theorem d_doc {x j pos pos'} : DS (GK X ex) X W (.Expr (.Constant (.str x) j pos) pos') sNx := wkS ps_doc fun D σ H ⟨ρ, F, Rv, io, rel, q⟩ => q σ H F (FLe.refl F) rel
def sSeq (a b : SS) : SS := fun ρ => (a ρ).bind fun f ρ' => match f with
  | .nx => b ρ'
  | f => .ok f ρ'
theorem SPost.le {G : Gx} {T : List (Addr × Str)} {io : Io T} {Rv F F1 : Hp} {r : R Fl} {D : Ends} (h : SPost G W io Rv F r D) (le : FLe F F1) : SPost G W io Rv F1 r D := by
  cases r with
  | stuck => exact h
  | exc x ρ' => exact XPost.le h le
  | ok f ρ' =>
    cases f with
    | nx => exact fun σ' H' F' l => h σ' H' F' (le.trans l)
    | bk => exact fun σ' H' F' l => h σ' H' F' (le.trans l)
    | ct => exact fun σ' H' F' l => h σ' H' F' (le.trans l)
    | rt d => exact fun v σ' H' F' l => h v σ' H' F' (le.trans l)
theorem d_snil : DSs (GK X ex) X W [] sNx := wkSs pss_nil fun D σ H ⟨ρ, F, Rv, io, rel, q⟩ => q σ H F (FLe.refl F) rel
theorem d_sone {st : Stmt} {s : SS} (h : DS (GK X ex) X W st s) : DSs (GK X ex) X W [st] s := pss_one h
theorem d_scons {st : Stmt} {rest : List Stmt} {s t : SS} (h : DS (GK X ex) X W st s) (h2 : DSs (GK X ex) X W rest t) : DSs (GK X ex) X W (st :: rest) (sSeq s t) := wkSs (pss_cons h h2) fun D σ H ⟨ρ, F, Rv, io, rel, q⟩ => by
  refine ⟨ρ, F, Rv, io, rel, ?_⟩
  unfold sSeq at q
  cases e : s ρ with
  | stuck => rw [e] at q; exact q.elim
  | exc x ρ' => rw [e] at q; exact q
  | ok f ρ' =>
    rw [e, R.bind_ok] at q
    cases f with
    | nx => exact fun σ' H' F' le rel' => ⟨ρ', F', Rv, io, rel', SPost.le q le⟩
    | bk => exact q
    | ct => exact q
    | rt d => exact q
def sIfS (t : ST) (a b : SS) : SS := fun ρ => (t ρ).bind fun k ρ' => match k with
  | true => a ρ'
  | false => b ρ'
theorem d_ifS {t : ST} {l r : List Stmt} {s u : SS} (hc : DT (GK X ex) X W c t) (h : DSs (GK X ex) X W l s) (h2 : DSs (GK X ex) X W r u) : DS (GK X ex) X W (.If c l r pos) (sIfS t s u) := wkS (ps_if hc h h2) fun D σ H ⟨ρ, F, Rv, io, rel, q⟩ => by
  refine ⟨ρ, F, Rv, io, rel, ?_⟩
  unfold sIfS at q
  cases e : t ρ with
  | stuck => rw [e] at q; exact q.elim
  | exc x ρ' => rw [e] at q; exact q
  | ok k ρ' =>
    rw [e, R.bind_ok] at q
    intro H' F' le rel'
    cases k with
    | true => exact iteT ⟨ρ', F', Rv, io, rel', SPost.le q le⟩
    | false => exact iteF ⟨ρ', F', Rv, io, rel', SPost.le q le⟩
/-- for .. in ..: one turn after another -/
def forGo (g : SG) (s : SS) : List D → SS
  | [], ρ => .ok .nx ρ
  | d :: ds, ρ => (g d ρ).bind fun _ ρ1 => (s ρ1).bind fun f ρ2 => match f with
    | .nx => forGo g s ds ρ2
    | .ct => forGo g s ds ρ2
    | .bk => .ok .nx ρ2
    | .rt d => .ok (.rt d) ρ2
def sFor (it : SA) (g : SG) (s : SS) : SS := fun ρ => (it ρ).bind fun ds ρ' => forGo g s ds ρ'
theorem d_for {iter : Expr} {body : List Stmt} {it : SA} {g : SG} {s : SS} {js : List Nat} (hu : At X W) (hp : PassesOwn (model X.prog X.w) X.A X.env X.xe) (hi : DI (GK X ex) X W tg iter it) (hg : DG (GK X ex) X W js tg g) (hb : DSs (GK X ex) X W body s)
    (hs : ∀ x, foldedSetIterable iter X.env x = pure x := by intro _; rfl) : DS (GK X ex) X W (.For tg iter body [] pos) (sFor it g s) := wkS (ps_for hp hu.calm hi hg hb hs) fun D σ H ⟨ρ, F, Rv, io, rel, q⟩ => by
  refine ⟨ρ, F, Rv, io, rel, ?_⟩
  unfold sFor at q
  cases e : it ρ with
  | stuck => rw [e] at q; exact q.elim
  | exc x ρ' => rw [e] at q; exact q
  | ok ds ρ1 =>
    rw [e, R.bind_ok] at q
    intro J H1 F1 le1 rel1 J1
    refine ⟨fun i m σ H => m = ds.length - i ∧ i ≤ ds.length ∧ ∃ (ρi : Env) (Fi : Hp), FLe F1 Fi ∧ Rel X.K io Rv ρi Fi σ H ∧ SPost (GK X ex) W io Rv Fi (forGo g s (ds.drop i) ρi) D, ⟨ds.length, rfl.trans (Nat.sub_zero _).symm, Nat.zero_le _, ρ1, F1, FLe.refl _, rel1, SPost.le q le1⟩, ?_⟩
    rintro i m σ H ⟨rfl, hi, ρi, Fi, lei, reli, qi⟩
    by_cases hlt : i < ds.length
    · obtain ⟨d, hd, hdr⟩ := drop_at hlt
      rw [hdr] at qi
      unfold forGo at qi
      refine .inr ⟨J1.go i Fi H lei reli.fH hlt, fun σ H => ∃ (ρi : Env) (Fi : Hp), FLe F1 Fi ∧ Rel X.K io Rv ρi Fi σ H ∧ SPost (GK X ex) W io Rv Fi (forGo g s (ds.drop (i + 1)) ρi) D, fun σ' H' z => ⟨ds.length - (i + 1), by omega, rfl, hlt, z⟩, fun xv H' y => ?_⟩
      obtain ⟨F2, nw, rp⟩ := J1.yld i Fi H H' xv d lei reli.fH hd y
      refine ⟨d, ρi, F2, Rv, io, reli.after nw, rp, ?_⟩
      cases e3 : g d ρi with
      | stuck => rw [e3] at qi; exact qi.elim
      | exc x ρ' => rw [e3] at qi; exact XPost.le qi nw.f
      | ok u ρ3 =>
        rw [e3, R.bind_ok] at qi
        intro σ3 H3 F3 le3 rel3 _
        refine ⟨ρ3, F3, Rv, io, rel3, ?_⟩
        cases e4 : s ρ3 with
        | stuck => rw [e4] at qi; exact qi.elim
        | exc x ρ' => rw [e4] at qi; exact XPost.le qi (nw.f.trans le3)
        | ok f ρ4 =>
          rw [e4, R.bind_ok] at qi
          have le := nw.f.trans le3
          cases f with
          | nx => exact fun σ4 H4 F4 le4 rel4 => ⟨ρ4, F4, lei.trans (le.trans le4), rel4, SPost.le qi (le.trans le4)⟩
          | ct => exact fun σ4 H4 F4 le4 rel4 => ⟨ρ4, F4, lei.trans (le.trans le4), rel4, SPost.le qi (le.trans le4)⟩
          | bk => exact fun σ4 H4 F4 le4 rel4 => qi σ4 H4 F4 (le.trans le4) rel4
          | rt d => exact fun v σ4 H4 F4 le4 rel4 => qi v σ4 H4 F4 (le.trans le4) rel4
    · have hi2 : i = ds.length := by omega
      subst hi2
      rw [List.drop_eq_nil_of_le (Nat.le_refl _)] at qi
      unfold forGo at qi
      exact .inl ⟨J1.stop Fi H lei reli.fH, qi σ H Fi (FLe.refl _) reli⟩
/-- while: at most so many turns -/
def sWhile (t : ST) (s : SS) : Nat → SS
  | 0, _ => .stuck
  | n + 1, ρ => (t ρ).bind fun k ρ1 => match k with
    | false => .ok .nx ρ1
    | true => (s ρ1).bind fun f ρ2 => match f with
      | .nx => sWhile t s n ρ2
      | .ct => sWhile t s n ρ2
      | .bk => .ok .nx ρ2
      | .rt d => .ok (.rt d) ρ2
theorem d_while {t : ST} {body : List Stmt} {s : SS} (n : Nat) (hp : PassesOwn (model X.prog X.w) X.A X.env X.xe) (hc : DT (GK X ex) X W c t) (hb : DSs (GK X ex) X W body s) : DS (GK X ex) X W (.While c body [] pos) (sWhile t s n) := wkS (ps_while hp hc hb) fun D σ H ⟨ρ, F, Rv, io, rel, q⟩ => by
  refine ⟨fun m σ H => ∃ (ρi : Env) (Fi : Hp), Rel X.K io Rv ρi Fi σ H ∧ SPost (GK X ex) W io Rv Fi (sWhile t s m ρi) D, ⟨n, ρ, F, rel, q⟩, ?_⟩
  rintro m σ H ⟨ρi, Fi, reli, qi⟩
  cases m with
  | zero => exact qi.elim
  | succ m =>
    unfold sWhile at qi
    refine ⟨ρi, Fi, Rv, io, reli, ?_⟩
    cases e : t ρi with
    | stuck => rw [e] at qi; exact qi.elim
    | exc x ρ' => rw [e] at qi; exact qi
    | ok k ρ1 =>
      rw [e, R.bind_ok] at qi
      intro H1 F1 le1 rel1
      cases k with
      | false => exact iteF (qi σ H1 F1 le1 rel1)
      | true =>
        refine iteT ⟨fun σ H => ∃ (ρi : Env) (Fi : Hp), Rel X.K io Rv ρi Fi σ H ∧ SPost (GK X ex) W io Rv Fi (sWhile t s m ρi) D, fun σ' H' z => ⟨m, Nat.lt_succ_self m, z⟩, ρ1, F1, Rv, io, rel1, ?_⟩
        have qi : SPost (GK X ex) W io Rv Fi ((s ρ1).bind fun f ρ2 => match f with
          | .nx => sWhile t s m ρ2
          | .ct => sWhile t s m ρ2
          | .bk => .ok .nx ρ2
          | .rt d => .ok (.rt d) ρ2) D := qi
        cases e4 : s ρ1 with
        | stuck => rw [e4] at qi; exact qi.elim
        | exc x ρ' => rw [e4] at qi; exact XPost.le qi le1
        | ok f ρ4 =>
          rw [e4, R.bind_ok] at qi
          cases f with
          | nx => exact fun σ4 H4 F4 le4 rel4 => ⟨ρ4, F4, rel4, SPost.le qi (le1.trans le4)⟩
          | ct => exact fun σ4 H4 F4 le4 rel4 => ⟨ρ4, F4, rel4, SPost.le qi (le1.trans le4)⟩
          | bk => exact fun σ4 H4 F4 le4 rel4 => qi σ4 H4 F4 (le1.trans le4) rel4
          | rt d => exact fun v σ4 H4 F4 le4 rel4 => qi v σ4 H4 F4 (le1.trans le4) rel4
end
end Dt

set_option Elab.async false
set_option linter.all false
set_option maxRecDepth 100000
set_option maxHeartbeats 2000000
/-! The judgements' rules: what a variable's own list or dict undergoes; calls; defs. -/
namespace Dt
open PySem PySem.Spec PyProof.Rows L2

section
variable {ex : Exx} {X : Cx} {W : WX} {a b c e o tg : Expr} {es : List Expr} {pos p : Pos} {sa sb sc : SO} {ea eb : SE} {sB : SB} {sA : SA} {x : Str} {id : String}

/-! ### x[k] = v -/
def dPut (ks : List Key) (ds : List D) (k : Key) (z : D) : List Key × List D :=
  if (ks.any fun k' => decide (k' = k)) = true then (ks, List.zipWith (fun k' d => if k' = k then z else d) ks ds) else (ks ++ [k], ds ++ [z])
theorem dPut_put {K : PySem.W.Frag} {F : Hp} {k : Key} {v : V} {z : D} (rv : Rp K F v z) {kvs : List (Key × V)} {ds : List D} (r : Rps K F (kvs.map (·.2)) ds) :
    ((putK kvs k v).map (·.1)) = (dPut (kvs.map (·.1)) ds k z).1 ∧ Rps K F ((putK kvs k v).map (·.2)) (dPut (kvs.map (·.1)) ds k z).2 := by
  unfold putK dPut
  rw [List.any_map]
  by_cases h : (kvs.any fun kv => decide (kv.1 = k)) = true
  · have h' : (kvs.any ((fun k' => decide (k' = k)) ∘ fun x => x.1)) = true := h
    rw [if_pos h, if_pos h']
    refine ⟨?_, ?_⟩
    · show List.map _ _ = List.map _ kvs
      rw [List.map_map]
      refine List.map_congr_left fun kv _ => ?_
      show (if kv.1 = k then (kv.1, v) else kv).1 = kv.1
      split <;> rfl
    · clear h h'
      induction kvs generalizing ds with
      | nil => cases r; exact .nil
      | cons kv kvs ih =>
        cases r with
        | cons r1 rr =>
          simp only [List.map_cons, List.zipWith_cons_cons]
          refine .cons ?_ (ih rr)
          split
          · exact rv
          · exact r1
  · have h' : ¬ (kvs.any ((fun k' => decide (k' = k)) ∘ fun x => x.1)) = true := h
    rw [if_neg h, if_neg h', List.map_append, List.map_append]
    exact ⟨rfl, r.append (.cons rv .nil)⟩
/-- the new content -/
def putD (d i z : D) : Option D := match d with
  | .lst xs => match i with
    | .int j => (ixN xs.length j).map fun n => .lst (xs.set n z)
    | _ => none
  | .dct ks ds => (keyOf i).bind fun k => if ks.length < sizeLine then some (.dct (dPut ks ds k z).1 (dPut ks ds k z).2) else none
  | _ => none
def rSetA : TSet := fun o i v H Q => rSetL o i v H Q ∨ ∃ a H', o = .ref a ∧ DPut H a i v H' ∧ Q H'
theorem set_any (hu : X.A.units + 64 < cLine) : PSet X rSetA := by
  intro pins s σ H o i v ov iv u Q I ro ri rv h
  rcases h with h | ⟨a, H', rfl, hp, q⟩
  · exact set_list pins s σ H o i v ov iv u Q I ro ri rv h
  · obtain rfl : ov = Value.ref a := ro
    exact d_setItem (by omega) I hp ri rv fun s' I' => ⟨H', I', q⟩
/-- the variable at i: its own list or dict, what it holds -/
def held (ρ : Env) (i : Nat) : Option D := (ρ[i]?).bind Cell.held
def put (ρ : Env) (i : Nat) (d : D) : Env := match ρ[i]? with
  | some c => ρ.set i (c.put d)
  | none => ρ
theorem put_own {G : Gx} {T : List (Addr × Str)} {io : Io T} {Rv F H : Hp} {ρ : Env} {σ : L2.St} {i : Nat} {d d' : D} (r : Rel G.K io Rv ρ F σ H) (h : held ρ i = some d) : ∃ p ob, σ[i]? = some (some (.ref p)) ∧ H p = some ob ∧ OwnObj G.K F p ob d ∧ ∀ ob', OwnObj G.K F p ob' d' → Rel G.K io Rv (put ρ i d') F σ (upd H p ob') := by
  unfold held at h
  cases e : ρ[i]? with
  | none => rw [e] at h; cases h
  | some c =>
    rw [e] at h
    have h : c.held = some d := h
    obtain ⟨p, e1, w⟩ := r.heldAt e h
    obtain ⟨ob, e2, e3⟩ := w.at_
    refine ⟨p, ob, e1, e2, e3, fun ob' ho => ?_⟩
    have q := r.write e h e1 ho
    unfold put
    rw [e]
    exact q
theorem putD_set {G : Gx} {F H : Hp} {d i z d' : D} {p : Addr} {ob : HO} {iv v : V} {Q : Hp → Prop} (fh : FLe F H) (hp : H p = some ob) (ho : OwnObj G.K F p ob d) (hi : Vw G.K F H iv i) (hv : Rp G.K F v z) (e : putD d i z = some d')
    (q : ∀ ob', OwnObj G.K F p ob' d' → Q (upd H p ob')) : rSetA (.ref p) iv v H Q := by
  cases d with
  | lst xs =>
    cases i with
    | int j =>
      obtain ⟨vs, rfl, r⟩ := ho
      simp only [putD] at e
      cases e2 : ixN xs.length j with
      | none => rw [e2] at e; cases e
      | some n =>
        rw [e2] at e
        cases e
        exact .inl ⟨p, vs, j, n, rfl, hi.int, hp, by rw [r.length]; exact e2, q _ ⟨_, rfl, r.set n hv⟩⟩
    | _ => simp only [putD] at e; cases e
  | dct ks ds =>
    obtain ⟨kvs, rfl, rfl, r⟩ := ho
    simp only [putD] at e
    cases e2 : keyOf i with
    | none => rw [e2] at e; cases e
    | some k =>
      rw [e2, Option.bind_some] at e
      split at e
      · rename_i hz
        cases e
        have ei := keyOf_vw hi e2
        subst ei
        obtain ⟨h1, h2⟩ := dPut_put (k := k) hv r
        exact .inr ⟨p, _, rfl, .inl ⟨kvs, k, hp, rfl, by simpa using hz, rfl⟩, q _ ⟨_, rfl, h1, h2⟩⟩
      · cases e
  | _ => simp only [putD] at e; cases e
/-- x[k] = ..; x is looked at ahead of k, changed behind it -/
def gPut (i : Nat) (sk : SO) : SG := fun z ρ => match held ρ i with
  | none => .stuck
  | some _ => (sk ρ).bind fun o ρ' => match held ρ' i, o.get ρ' with
    | some d, some k => match putD d k z with
      | some d' => .ok () (put ρ' i d')
      | none => .stuck
    | _, _ => .stuck
theorem d_gPut {i : Nat} (hu : At X W) (ho : PE X o (tVar i)) (hi : DO (GK X ex) X W e sa)
    (ha : ∀ v, assign (.Subscript o e pos) X.env v = (do
      let ov ← holding [v] (eval o X.env)
      let iv ← holding [v, ov] (eval e X.env)
      standAt pos
      holding [v, ov, iv] (setItem ov iv v)
      release [v, ov, iv] []) := by intro _; rfl) : DG (GK X ex) X W [] (.Subscript o e pos) (gPut i sa) :=
  wkG (pg_sub ho hi (set_any hu.un) ha) fun v σ H Q ⟨z, ρ, F, Rv, io, rel, rp, q⟩ => by
    unfold gPut at q
    cases e1 : held ρ i with
    | none => rw [e1] at q; exact q.elim
    | some d0 =>
      rw [e1] at q
      obtain ⟨p, ob, e2, e3, e4, _⟩ := put_own (G := GK X ex) (d' := d0) rel e1
      refine ⟨_, e2, ρ, F, Rv, io, rel, ?_⟩
      cases e5 : sa ρ with
      | stuck => rw [e5] at q; exact q.elim
      | exc x ρ' => rw [e5] at q; exact q
      | ok o' ρ' =>
        rw [e5] at q
        simp only [R.bind_ok] at q
        intro iv H' F' le rel' ok
        cases e6 : held ρ' i with
        | none => rw [e6] at q; exact q.elim
        | some d =>
          cases e7 : o'.get ρ' with
          | none => rw [e6, e7] at q; exact q.elim
          | some k =>
            rw [e6, e7] at q
            simp only at q
            cases e8 : putD d k z with
            | none => rw [e8] at q; exact q.elim
            | some d' =>
              rw [e8] at q
              obtain ⟨p', ob', e9, e10, e11, e12⟩ := put_own (G := GK X ex) (d' := d') rel' e6
              rw [e2] at e9
              cases e9
              exact putD_set (G := GK X ex) rel'.fH e10 e11 (rel'.view (G := GK X ex) ok e7) (rp.mono le) e8 fun ob2 h2 => q σ _ F' le (e12 ob2 h2) ⟨rfl, fun _ _ => rfl⟩

/-! ### x.append(e), x.pop(k), x.insert(k, e) -/
def heldL (ρ : Env) (i : Nat) : Option (List D) := match held ρ i with
  | some (.lst ds) => some ds
  | _ => none
theorem heldL_some {ρ : Env} {i : Nat} {ds : List D} (h : heldL ρ i = some ds) : held ρ i = some (.lst ds) := by
  unfold heldL at h
  split at h
  · rename_i e; cases h; exact e
  · cases h
/-- a method that changes a list: the result and the new content -/
def sMut (i : Nat) (f : List D → List D → Option (D × List D)) (s : SA) : SE := fun ρ => match heldL ρ i with
  | none => .stuck
  | some _ => (s ρ).bind fun es ρ' => match heldL ρ' i with
    | none => .stuck
    | some ds => match f ds es with
      | some r => .ok r.1 (put ρ' i (.lst r.2))
      | none => .stuck
/-- the rule r changes lists so -/
def LMut (G : Gx) (r : V → List V → Hp → VK → Prop) (f : List D → List D → Option (D × List D)) : Prop := ∀ F H p vs ds xs es z ds' (Q : VK), FLe F H → H p = some (.lst vs) → Rps G.K F vs ds → Rps G.K F xs es → f ds es = some (z, ds') →
  (∀ v vs', Rp G.K F v z → Rps G.K F vs' ds' → Q v (upd H p (.lst vs'))) → r (.ref p) xs H Q
theorem mut_core {i : Nat} {f : List D → List D → Option (D × List D)} {r : V → List V → Hp → VK → Prop} {σ : L2.St} {H : Hp} {Q : VK} (hf : LMut (GK X ex) r f)
    (h : tE (GK X ex) W (sMut i f sA) σ H Q) : tBM X.K "list" r (tVar i) (tA (GK X ex) W sA) σ H Q := by
  obtain ⟨ρ, F, Rv, io, rel, q⟩ := h
  unfold sMut at q
  cases e1 : heldL ρ i with
  | none => rw [e1] at q; exact q.elim
  | some ds0 =>
    rw [e1] at q
    obtain ⟨p, ob, e2, e3, e4, _⟩ := put_own (G := GK X ex) (d' := .lst ds0) rel (heldL_some e1)
    obtain ⟨vs0, rfl, r0⟩ := e4
    refine ⟨_, e2, .inl ⟨rfl, _, SqL.of e3⟩, ρ, F, Rv, io, rel, ?_⟩
    cases e5 : sA ρ with
    | stuck => rw [e5] at q; exact q.elim
    | exc x ρ' => rw [e5] at q; exact q
    | ok es ρ' =>
      rw [e5] at q
      simp only [R.bind_ok] at q
      intro xs H' F' le rel' rx
      cases e6 : heldL ρ' i with
      | none => rw [e6] at q; exact q.elim
      | some ds =>
        rw [e6] at q
        cases e8 : f ds es with
        | none => simp only [e8] at q
        | some z =>
          simp only [e8] at q
          obtain ⟨p', ob', e9, e10, e11, e12⟩ := put_own (G := GK X ex) (d' := .lst z.2) rel' (heldL_some e6)
          rw [e2] at e9
          cases e9
          obtain ⟨vs, rfl, r1⟩ := e11
          exact hf F' H' p vs ds xs es z.1 z.2 Q rel'.fH e10 r1 rx e8 fun v vs' rv rvs => q v _ F' le (e12 _ ⟨_, rfl, rvs⟩) rv
def mAppend (ds es : List D) : Option (D × List D) := match es with
  | [d] => if ds.length < sizeLine then some (.non, ds ++ [d]) else none
  | _ => none
theorem lmut_append {G : Gx} : LMut G rAppend mAppend := fun F H p vs ds xs es z ds' Q fh hp r rx e q => by
  unfold mAppend at e
  split at e
  · split at e
    · rename_i hz
      cases e
      cases rx with
      | cons a b => cases b; exact ⟨p, vs, _, rfl, rfl, hp, by rw [r.length]; exact hz, q _ _ .non (r.append (.cons a .nil))⟩
    · cases e
  · cases e
def mPop (ds es : List D) : Option (D × List D) := match es with
  | [.int i] => if -(2 ^ 63) ≤ i ∧ i < 2 ^ 63 then (seqIndex? i ds.length).bind fun k => (ds[k]?).map fun d => (d, ds.eraseIdx k) else none
  | _ => none
theorem lmut_pop {G : Gx} : LMut G rPopAt mPop := fun F H p vs ds xs es z ds' Q fh hp r rx e q => by
  unfold mPop at e
  split at e
  · rename_i i
    split at e
    · rename_i hb
      cases e2 : seqIndex? i ds.length with
      | none => rw [e2] at e; cases e
      | some k =>
        rw [e2, Option.bind_some] at e
        cases e3 : ds[k]? with
        | none => rw [e3] at e; cases e
        | some d =>
          rw [e3] at e
          cases e
          obtain ⟨v, e4, rv⟩ := r.get e3
          cases rx with
          | cons a b => cases b; cases a; exact ⟨p, vs, i, k, v, rfl, rfl, hp, hb.1, hb.2, by rw [r.length]; exact e2, e4, q _ _ rv (r.eraseIdx k)⟩
    · cases e
  · cases e
theorem d_mut {i : Nat} {name : Str} {apos cpos : Pos} {r : V → List V → Hp → VK → Prop} {f : List D → List D → Option (D × List D)} (slot : Slot "list" name id) (hty : typeOf (.builtin id) = pure (.type "method_descriptor")) (hm : MtR X id r) (hf : LMut (GK X ex) r f)
    (ho : PE X o (tVar i)) (ha : DA (GK X ex) X W (e :: es) sA) (hbase : attributeBase o name X.env (eval o X.env) = eval o X.env := by rfl)
    (hfew : ((backTo cpos (starEach (e :: es) X.env)).all (fun x => !x.1) && (backToKw cpos (keywordEach [] X.env)).all (fun x => x.1.isSome)
      && decide ((e :: es).length + ([] : List Keyword).length + (if ([] : List Keyword).isEmpty then 0 else 1) < 30)) = true := by rfl)
    (hline : (apos.endLine == cpos.line) = true := by rfl) (hs : starEach (e :: es) X.env = (false, eval e X.env) :: starEach es X.env := by rfl) (hplain : (backTo cpos (starEach es X.env)).any (·.1) = false := by rfl) :
    DE (GK X ex) X W (.Call (.Attribute o name apos) (e :: es) [] cpos) (sMut i f sA) :=
  wkE (pe_bm PySem.F.plainAttrs_list slot hty hm ho ha hbase hfew hline hs hplain) fun σ H Q h => mut_core hf h

/-! ### calls -/
structure Apart (F Rv H : Hp) : Prop where
  f : FLe F H
  r : FLe Rv H
  d : ∀ a o, F a = some o → Rv a = none
  nt : NoTb F
/-- a def that computes g on frozen data -/
def spP (G : Gx) (n : Nat) (g : List D → FR) : Sp := fun vs H Q E => ∃ ds F Rv, vs.length = n ∧ Apart F Rv H ∧ Rps G.K F vs ds ∧ match g ds with
  | .ok d _ => ∀ v H' F', FLe F F' → Apart F' Rv H' → Rp G.K F' v d → Q v H'
  | .exc x => ∀ cls dd H' F', FLe F F' → Apart F' Rv H' → XR G F' x cls dd H' → E cls dd H'
  | .stuck => False
/-- .. on a list or dict that it is lent first, and on frozen data -/
def spI (G : Gx) (n : Nat) (g : List D → FR) : Sp := fun vs H Q E => ∃ p ws d0 ds F Rv, vs = .ref p :: ws ∧ vs.length = n ∧ Apart F Rv H ∧ OwnAt G.K F Rv H p d0 ∧ Rps G.K F ws ds ∧ match g (d0 :: ds) with
  | .ok d [z] => ∀ v H' F', FLe F F' → Apart F' Rv H' → OwnAt G.K F' Rv H' p z → Rp G.K F' v d → Q v H'
  | _ => False
def endP (r : FR) (ρ : Env) : R D := match r with
  | .ok d _ => .ok d ρ
  | .exc x => .exc x ρ
  | .stuck => .stuck
def sCallP (n : Nat) (g : List D → FR) (s : SA) : SE := fun ρ => (s ρ).bind fun ds ρ' => if ds.length = n then endP (g ds) ρ' else .stuck
def endI (i : Nat) (r : FR) (ρ : Env) : R D := match r with
  | .ok d [z] => .ok d (put ρ i z)
  | _ => .stuck
/-- the first argument is the variable at i, which it is lent -/
def sCallI (i n : Nat) (g : List D → FR) (s : SA) : SE := fun ρ => match held ρ i with
  | none => .stuck
  | some _ => (s ρ).bind fun ds ρ' => match held ρ' i with
    | none => .stuck
    | some d0 => if ds.length + 1 = n then endI i (g (d0 :: ds)) ρ' else .stuck
section
variable {K : PySem.W.Frag} {T : List (Addr × Str)} {io : Io T} {Rv : Hp} {ρ : Env} {F F' : Hp} {σ : L2.St} {H H' : Hp}
/-- all that is not frozen, but p -/
def restOf (F H : Hp) (p : Option Addr) : Hp := fun a => if F a = none ∧ p ≠ some a then H a else none
theorem restOf_le (p : Option Addr) : FLe (restOf F H p) H := fun a o e => by
  unfold restOf at e
  split at e
  · exact e
  · cases e
theorem restOf_apart (r : Rel K io Rv ρ F σ H) (p : Option Addr) : Apart F (restOf F H p) H := ⟨r.fH, restOf_le p, (fun a o e => by
  unfold restOf
  rw [if_neg (fun z => by rw [e] at z; cases z.1)]), r.nt⟩
theorem Rel.behind (r : Rel K io Rv ρ F σ H) (le : FLe F F') (ap : Apart F' (restOf F H none) H') : Rel K io Rv ρ F' σ H' := by
  have keep : ∀ {a o}, F a = none → H a = some o → H' a = some o ∧ F' a = none := fun {a o} n e => by
    have q : restOf F H none a = some o := by
      unfold restOf
      rw [if_pos ⟨n, by intro z; cases z⟩]
      exact e
    refine ⟨ap.r _ _ q, ?_⟩
    cases e' : F' a with
    | none => rfl
    | some u => have z := ap.d a u e'; rw [q] at z; cases z
  have nF : ∀ {a o}, Rv a = some o → F a = none := fun {a o} e => by
    cases e' : F a with
    | none => rfl
    | some u => have z := r.dj a u e'; rw [e] at z; cases z
  refine ⟨ap.f, fun a o e => (keep (nF e) (r.rH a o e)).1, fun a o e => ?_, r.len, fun i c v e1 e2 => ?_, r.inj, r.ios, r.ioc, fun t ht => let q := r.tab t ht; let ⟨ps, ep⟩ := q.tbl; q.mv (keep q.1 ep).2 q.2.1 (fun ps e => (keep q.1 e).1) le q.nR, ap.nt⟩
  · cases e' : Rv a with
    | none => rfl
    | some u => have z := (keep (nF e') (r.rH a u e')).2; rw [e] at z; cases z
  · have q := r.cell i c v e1 e2
    have own : ∀ {p d}, OwnAt K F Rv H p d → OwnAt K F' Rv H' p d := fun {p d} w => by
      obtain ⟨o, e, h⟩ := w.at_
      obtain ⟨k1, k2⟩ := keep w.nF e
      exact ⟨k2, w.nR, o, k1, h.mono le⟩
    cases c with
    | no => trivial
    | fro d => obtain ⟨x, e, q⟩ := q; exact ⟨x, e, q.mono le⟩
    | own d => obtain ⟨p, e, q⟩ := q; exact ⟨p, e, own q⟩
    | io d => obtain ⟨p, e, q⟩ := q; exact ⟨p, e, own q⟩
theorem Rel.behindI (r : Rel K io Rv ρ F σ H) {i : Nat} {c : Cell} {d0 z : D} {p : Addr} (hc : ρ[i]? = some c) (hh : c.held = some d0) (hp : σ[i]? = some (some (.ref p))) (le : FLe F F') (ap : Apart F' (restOf F H (some p)) H') (ow : OwnAt K F' (restOf F H (some p)) H' p z) :
    Rel K io Rv (ρ.set i (c.put z)) F' σ H' := by
  have keep : ∀ {a o}, a ≠ p → F a = none → H a = some o → H' a = some o ∧ F' a = none := fun {a o} ne n e => by
    have q : restOf F H (some p) a = some o := by
      unfold restOf
      rw [if_pos ⟨n, by intro z; cases z; exact ne rfl⟩]
      exact e
    refine ⟨ap.r _ _ q, ?_⟩
    cases e' : F' a with
    | none => rfl
    | some u => have z := ap.d a u e'; rw [q] at z; cases z
  obtain ⟨p', e1, w⟩ := r.heldAt hc hh
  rw [hp] at e1; cases e1
  have hil : i < ρ.length := (List.getElem?_eq_some_iff.mp hc).1
  have nF : ∀ {a o}, Rv a = some o → F a = none := fun {a o} e => by
    cases e' : F a with
    | none => rfl
    | some u => have z := r.dj a u e'; rw [e] at z; cases z
  have nP : ∀ {a o}, Rv a = some o → a ≠ p := fun {a o} e z => by subst z; rw [w.nR] at e; cases e
  have hp2 : (c.put z).held = some z := by cases c <;> first | rfl | cases hh
  refine ⟨ap.f, fun a o e => (keep (nP e) (nF e) (r.rH a o e)).1, fun a o e => ?_, by rw [List.length_set]; exact r.len, fun j cj v e1 e2 => ?_, fun j k cj ck dj dk q h1 h2 h3 h4 h5 h6 => ?_, fun ip hip => ?_, fun j d' e => ?_, fun t ht => let q := r.tab t ht; let ⟨ps, ep⟩ := q.tbl; q.mv (keep (own_ne w ep) q.1 ep).2 q.2.1 (fun ps e => (keep (own_ne w e) q.1 e).1) le q.nR, ap.nt⟩
  · cases e' : Rv a with
    | none => rfl
    | some u => have z := (keep (nP e') (nF e') (r.rH a u e')).2; rw [e] at z; cases z
  · by_cases hj : i = j
    · subst hj
      rw [List.getElem?_set_self hil] at e1
      cases e1
      rw [hp] at e2; cases e2
      have own : OwnAt K F' Rv H' p z := ⟨ow.nF, w.nR, ow.at_⟩
      cases c with
      | no => cases hh
      | fro _ => cases hh
      | own _ => exact ⟨p, rfl, own⟩
      | io _ => exact ⟨p, rfl, own⟩
    · rw [List.getElem?_set_ne hj] at e1
      have q := r.cell j cj v e1 e2
      have own : ∀ {p' dj}, cj.held = some dj → v = some (.ref p') → OwnAt K F Rv H p' dj → OwnAt K F' Rv H' p' dj := fun {p' dj} h3 h4 w' => by
        have ne : p' ≠ p := fun z => by
          subst z
          rw [h4] at e2
          exact hj (r.inj i j c cj d0 dj p' hc e1 hh h3 hp e2)
        obtain ⟨o, e, h⟩ := w'.at_
        obtain ⟨k1, k2⟩ := keep ne w'.nF e
        exact ⟨k2, w'.nR, o, k1, h.mono le⟩
      cases cj with
      | no => trivial
      | fro d => obtain ⟨x, e, q⟩ := q; exact ⟨x, e, q.mono le⟩
      | own dj => obtain ⟨p', e, q⟩ := q; exact ⟨p', e, own rfl e q⟩
      | io dj => obtain ⟨p', e, q⟩ := q; exact ⟨p', e, own rfl e q⟩
  · have old : ∀ {j : Nat} {cj : Cell} {dj : D}, (ρ.set i (c.put z))[j]? = some cj → cj.held = some dj → ∃ cj' dj', ρ[j]? = some cj' ∧ cj'.held = some dj' := fun {j cj dj} e1 e2 => by
      by_cases hj : i = j
      · subst hj; exact ⟨c, d0, hc, hh⟩
      · rw [List.getElem?_set_ne hj] at e1; exact ⟨cj, dj, e1, e2⟩
    obtain ⟨_, _, g1, g2⟩ := old h1 h3
    obtain ⟨_, _, g3, g4⟩ := old h2 h4
    exact r.inj j k _ _ _ _ q g1 g3 g2 g4 h5 h6
  · obtain ⟨⟨d', e1⟩, e2⟩ := r.ios ip hip
    refine ⟨?_, e2⟩
    by_cases hj : i = ip.1
    · subst hj
      rw [hc] at e1; cases e1
      exact ⟨z, by rw [List.getElem?_set_self hil]; rfl⟩
    · exact ⟨d', by rw [List.getElem?_set_ne hj]; exact e1⟩
  · by_cases hj : i = j
    · subst hj
      rw [List.getElem?_set_self hil] at e
      cases c with
      | no => cases hh
      | fro _ => cases hh
      | own _ => cases e
      | io d'' => exact r.ioc i d'' hc
    · rw [List.getElem?_set_ne hj] at e; exact r.ioc j d' e
end
/-- a def that may be called by its name -/
structure Cal (P : Program) (w : World) (K : PySem.W.Frag) (mg : Str → Option Value) (base : Heap) (x : Str) (k : Nat) (sp : Sp) : Prop where
  there : ∃ f fd ps, FnOk P w K mg base (L2N.CX P w) k f fd ps sp ∧ mg x = some (.ref f) ∧ PySem.W.keepIn K (.ref f) = true ∧ Binds K fd ps []
/-- a def of the text as it stands -/
structure Fn (K : PySem.W.Frag) (mg : Str → Option Value) (x : Str) (st : Stmt) (ps : List Str) : Prop where
  there : ∃ f fd, Fun K x x st f fd ∧ mg x = some (.ref f) ∧ Binds K fd ps []
theorem Cal.mono {P : Program} {w : World} {K : PySem.W.Frag} {mg : Str → Option Value} {base : Heap} {x : Str} {j k : Nat} {sp : Sp} (C : Cal P w K mg base x j sp) (h : j ≤ k) : Cal P w K mg base x k sp := by
  obtain ⟨f, fd, ps, F, r⟩ := C.there
  exact ⟨f, fd, ps, F.mono h, r⟩
variable {f : Addr} {fd : FuncData} {ps : List Str} {k n : Nat} {g : List D → FR}
theorem d_callP (hu : At X W) (C : Cal X.prog X.w X.K X.mg X.base x k (spP (GK X ex) n g)) (hr : Room k X.A) (hg : Gl X x)
    (ha : DA (GK X ex) X W (e :: es) sA) (hdb : (x == ("__debug__" : Str)) = false := by decide) (he : starEach (e :: es) X.env = (false, eval e X.env) :: starEach es X.env := by rfl) (hpl : (backTo pos (starEach es X.env)).any (·.1) = false := by rfl) :
    DE (GK X ex) X W (.Call (.Name x p) (e :: es) [] pos) (sCallP n g sA) :=
  let ⟨f, fd, ps, F, hm, hk, hb⟩ := C.there
  wkE (pe_callS (E := WE W) F hr hg hm hk hb (fun σ => L2N.passAt hu.tk σ) ha hdb he hpl) fun σ H Q ⟨ρ, F, Rv, io, rel, q⟩ => by
    refine ⟨ρ, F, Rv, io, rel, ?_⟩
    unfold sCallP at q
    cases e : sA ρ with
    | stuck => rw [e] at q; exact q.elim
    | exc x ρ' => rw [e] at q; exact q
    | ok ds ρ' =>
      rw [e, R.bind_ok] at q
      intro vs H1 F1 le rel1 r
      by_cases hn : ds.length = n
      · rw [if_pos hn] at q
        refine ⟨ds, F1, restOf F1 H1 none, r.length.trans hn, restOf_apart rel1 none, r, ?_⟩
        cases e2 : g ds with
        | stuck => rw [e2] at q; exact q.elim
        | ok d o => rw [e2] at q; exact fun v H' F' le2 ap rp => q v H' F' (le.trans le2) (rel1.behind le2 ap) rp
        | exc x => rw [e2] at q; exact fun cls dd H' F' le2 ap xr => q cls dd σ H' F' (le.trans le2) (rel1.behind le2 ap) xr
      · rw [if_neg hn] at q; exact q.elim
theorem d_callI {i : Nat} (hu : At X W) (C : Cal X.prog X.w X.K X.mg X.base x k (spI (GK X ex) n g)) (hr : Room k X.A) (hg : Gl X x)
    (ho : PE X e (tVar i)) (ha : DA (GK X ex) X W es sA) (hdb : (x == ("__debug__" : Str)) = false := by decide) (he : starEach (e :: es) X.env = (false, eval e X.env) :: starEach es X.env := by rfl) (hpl : (backTo pos (starEach es X.env)).any (·.1) = false := by rfl) :
    DE (GK X ex) X W (.Call (.Name x p) (e :: es) [] pos) (sCallI i n g sA) :=
  let ⟨f, fd, ps, F, hm, hk, hb⟩ := C.there
  wkE (pe_callS (E := WE W) F hr hg hm hk hb (fun σ => L2N.passAt hu.tk σ) (pa_cons ho ha he) hdb he hpl) fun σ H Q ⟨ρ, F, Rv, io, rel, q⟩ => by
    unfold sCallI at q
    cases e0 : held ρ i with
    | none => rw [e0] at q; exact q.elim
    | some d00 =>
      rw [e0] at q
      obtain ⟨p0, _, e1, _⟩ := put_own (G := GK X ex) (d' := d00) rel e0
      refine ⟨_, e1, ρ, F, Rv, io, rel, ?_⟩
      cases e : sA ρ with
      | stuck => rw [e] at q; exact q.elim
      | exc x ρ' => rw [e] at q; exact q
      | ok ds ρ' =>
        rw [e] at q
        simp only [R.bind_ok] at q
        intro vs H1 F1 le rel1 r
        cases e2 : held ρ' i with
        | none => rw [e2] at q; exact q.elim
        | some d0 =>
          rw [e2] at q
          by_cases hn : ds.length + 1 = n
          · simp only [if_pos hn] at q
            obtain ⟨c, hc, hh⟩ : ∃ c, ρ'[i]? = some c ∧ c.held = some d0 := by
              unfold held at e2
              cases e3 : ρ'[i]? with
              | none => rw [e3] at e2; cases e2
              | some c => rw [e3] at e2; exact ⟨c, rfl, e2⟩
            obtain ⟨p', e4, w⟩ := rel1.heldAt hc hh
            rw [e1] at e4
            cases e4
            have nR : restOf F1 H1 (some p0) p0 = none := by unfold restOf; rw [if_neg (fun z => z.2 rfl)]
            refine ⟨p0, vs, d0, ds, F1, restOf F1 H1 (some p0), rfl, by rw [List.length_cons, r.length]; exact hn, restOf_apart rel1 _, ⟨w.nF, nR, w.at_⟩, r, ?_⟩
            cases e5 : g (d0 :: ds) with
            | stuck => rw [e5] at q; exact q.elim
            | exc x => rw [e5] at q; exact q.elim
            | ok d o =>
              rw [e5] at q
              match o, q with
              | [], q => exact q.elim
              | [z], q =>
                refine fun v H' F' le2 ap ow rp => q v H' F' (le.trans le2) ?_ rp
                have z1 := rel1.behindI hc hh e1 le2 ap ow
                unfold put
                rw [hc]
                exact z1
              | _ :: _ :: _, q => exact q.elim
          · simp only [if_neg hn] at q

/-- a def by its body, whatever is asked of exceptions -/
theorem okN {P : Program} {w : World} {K : PySem.W.Frag} {mg : Str → Option Value} {base : Heap} {CX : CXT} {x qual : Str} {st : Stmt} {f : Addr} {fd : FuncData} {N ps : List Str} {k : Nat} {sp : Sp} (F : Fun K x qual st f fd)
    (S : FnScope N ps (defScope st)) (len : ∀ vs H Q E, sp vs H Q E → vs.length = ps.length)
    (body : ∀ (cd : Value) (A : Around) (out : List PySem.Env) (s : Shared) (H : Hp) (vs : List V) (Q : VK) (E : XK), Room k (A.deeper (envOfC qual (defScope st) s.heap.objs.size f cd)) → sp vs H Q E →
      ∃ t, PSs (cxOf CX P w K mg base N qual (defScope st) f cd A out s H E) (defBody st) t ∧ t { nx := fun _ H' => Q .non H', rt := Q } (L2.start N vs) H) : FnOk P w K mg base CX (k + 1) f fd ps sp := by
  obtain ⟨_, _, _, _, _, _, cd, _, _, e, l, c⟩ := F.ex; subst e
  exact fn_of l c S len (body cd)
/-! ### defs -/
def runP (m n : Nat) (body : SS) : List D → FR := fun ds => match body (ds.map Cell.fro ++ List.replicate (m - n) Cell.no) with
  | .ok (.rt d) _ => .ok d []
  | .ok .nx _ => .ok .non []
  | .exc x _ => .exc x
  | _ => .stuck
def lastIo (ρ : Env) : List D := match (ρ[0]? : Option Cell) with
  | some (.io d) => [d]
  | _ => []
def runI (m n : Nat) (body : SS) : List D → FR := fun ds => match ds with
  | [] => .stuck
  | d0 :: ds => match body (Cell.io d0 :: ds.map Cell.fro ++ List.replicate (m - n) Cell.no) with
    | .ok (.rt d) ρ => .ok d (lastIo ρ)
    | .ok .nx ρ => .ok .non (lastIo ρ)
    | _ => .stuck
section
variable {P : Program} {w : World} {K : PySem.W.Frag} {mg : Str → Option Value} {base : Heap}
abbrev wE (E : XK) : WX := fun cls d _ H => E cls d H
abbrev cx (P : Program) (w : World) (K : PySem.W.Frag) (mg : Str → Option Value) (base : Heap) (N : List Str) (qual : Str) (st : Stmt) (f : Addr) (cdv : Value) (A : Around) (outer : List PySem.Env) (s : Shared) (H : Hp) (E : XK) : Cx := cxOf (L2N.CX P w) P w K mg base N qual (defScope st) f cdv A outer s H E
theorem at_def {N ps : List Str} {qual : Str} {st : Stmt} {f : Addr} {cdv : Value} {A : Around} {outer : List PySem.Env} {s : Shared} {H : Hp} {E : XK} {k : Nat} (S : FnScope N ps (defScope st)) (hr : Room k (A.deeper (envOfC qual (defScope st) s.heap.objs.size f cdv))) :
    At (cxOf (L2N.CX P w) P w K mg base N qual (defScope st) f cdv A outer s H E) (wE E) := ⟨rfl, S.nd, hr.units, L2N.takes_of rfl rfl rfl rfl⟩
theorem cells_start {F : Hp} : ∀ {vs : List V} {ds : List D}, Rps K F vs ds → ∀ {m n : Nat} {Rv H : Hp} (i : Nat) (c : Cell) (v : Option V), (ds.map Cell.fro ++ List.replicate m Cell.no)[i]? = some c → (vs.map some ++ List.replicate m none)[i]? = some v → CellOk K F Rv H v c
  | _, _, .nil, m, n, Rv, H, i, c, v, e1, e2 => by
    simp only [List.map_nil, List.nil_append] at e1
    rw [List.getElem?_replicate] at e1
    split at e1
    · cases e1; trivial
    · cases e1
  | _, _, .cons a b, m, n, Rv, H, 0, c, v, e1, e2 => by
    simp at e1 e2
    subst e1 e2
    exact ⟨_, rfl, a⟩
  | _, _, .cons a b, m, n, Rv, H, i + 1, c, v, e1, e2 => cells_start b (n := n) i c v (by simpa using e1) (by simpa using e2)
theorem fro_held {ds : List D} {m i : Nat} {c : Cell} (e : (ds.map Cell.fro ++ List.replicate m Cell.no)[i]? = some c) : c.held = none := by
  rw [List.getElem?_append] at e
  split at e
  · rw [List.getElem?_map] at e
    cases e2 : ds[i]? with
    | none => rw [e2] at e; cases e
    | some d => rw [e2] at e; cases e; rfl
  · rw [List.getElem?_replicate] at e
    split at e
    · cases e; rfl
    · cases e
theorem rel_start {F Rv H : Hp} {vs : List V} {ds : List D} {m : Nat} (ap : Apart F Rv H) (r : Rps K F vs ds) : Rel K ({} : Io []) Rv (ds.map Cell.fro ++ List.replicate m Cell.no) F (vs.map some ++ List.replicate m none) H := by
  refine ⟨ap.f, ap.r, ap.d, by simp [r.length], fun i c v e1 e2 => cells_start r (n := 0) i c v e1 e2, fun i j ci cj di dj p e1 e2 h1 h2 _ _ => ?_, fun ip hip => (nomatch hip), fun i d e => ?_, (fun t ht => (nomatch ht)), ap.nt⟩
  · rw [fro_held e1] at h1; cases h1
  · have z := fro_held e; cases z
theorem rel_startI {F Rv H : Hp} {p : Addr} {d0 : D} {vs : List V} {ds : List D} {m : Nat} (ap : Apart F Rv H) (ow : OwnAt K F Rv H p d0) (r : Rps K F vs ds) :
    Rel K ({ l := [(0, p)] } : Io []) Rv (Cell.io d0 :: (ds.map Cell.fro ++ List.replicate m Cell.no)) F (some (.ref p) :: (vs.map some ++ List.replicate m none)) H := by
  have r0 := rel_start (m := m) ap r
  refine ⟨ap.f, ap.r, ap.d, by simp [r.length], fun i c v e1 e2 => ?_, fun i j ci cj di dj q e1 e2 h1 h2 _ _ => ?_, fun ip hip => ?_, fun i d e => ?_, (fun t ht => (nomatch ht)), ap.nt⟩
  · cases i with
    | zero => simp at e1 e2; subst e1 e2; exact ⟨p, rfl, ow⟩
    | succ i => exact r0.cell i c v (by simpa using e1) (by simpa using e2)
  · have z : ∀ {i : Nat} {c : Cell} {d : D}, (Cell.io d0 :: (ds.map Cell.fro ++ List.replicate m Cell.no))[i]? = some c → c.held = some d → i = 0 := fun {i c d} e h => by
      cases i with
      | zero => rfl
      | succ i => rw [fro_held (by simpa using e)] at h; cases h
    rw [z e1 h1, z e2 h2]
  · obtain rfl : ip = (0, p) := List.mem_singleton.mp hip
    exact ⟨⟨d0, rfl⟩, rfl⟩
  · cases i with
    | zero => exact ⟨p, List.mem_singleton.mpr rfl⟩
    | succ i => have z := fro_held (c := .io d) (by simpa using e); cases z
theorem d_defP {x qual : Str} {st : Stmt} {f : Addr} {fd : FuncData} {N ps : List Str} {k : Nat} {body : SS} (ea : String → Addr) (F : Fun K x qual st f fd) (S : FnScope N ps (defScope st))
    (h : ∀ (cdv : Value) (A : Around) (outer : List PySem.Env) (s : Shared) (H : Hp) (E : XK), Room k (A.deeper (envOfC qual (defScope st) s.heap.objs.size f cdv)) →
      DSs ⟨K, ⟨ea, []⟩⟩ (cxOf (L2N.CX P w) P w K mg base N qual (defScope st) f cdv A outer s H E) (wE E) (defBody st) body) : FnOk P w K mg base (L2N.CX P w) (k + 1) f fd ps (spP ⟨K, ⟨ea, []⟩⟩ ps.length (runP N.length ps.length body)) := by
  refine okN F S (fun vs H Q E ⟨_, _, _, hl, _⟩ => hl) fun cdv A outer s H vs Q E hr ⟨ds, F0, Rv, hl, ap, r, q⟩ => ⟨_, h cdv A outer s H E hr, ?_⟩
  have e0 : L2.start N vs = vs.map some ++ List.replicate (N.length - ps.length) none := by unfold L2.start; rw [hl]
  rw [e0]
  refine ⟨_, F0, Rv, {}, rel_start ap r, ?_⟩
  unfold runP at q
  cases e : body (ds.map Cell.fro ++ List.replicate (N.length - ps.length) Cell.no) with
  | stuck => rw [e] at q; exact q.elim
  | exc x ρ' => rw [e] at q; exact fun cls dd σ' H' F' le rel xr => q cls dd H' F' le ⟨rel.fH, rel.rH, rel.dj, rel.nt⟩ xr
  | ok fl ρ' =>
    rw [e] at q
    cases fl with
    | nx => exact fun σ' H' F' le rel => q _ H' F' le ⟨rel.fH, rel.rH, rel.dj, rel.nt⟩ .non
    | bk => exact q.elim
    | ct => exact q.elim
    | rt d => exact fun v σ' H' F' le rel rp => q v H' F' le ⟨rel.fH, rel.rH, rel.dj, rel.nt⟩ rp
theorem d_defI {x qual : Str} {st : Stmt} {f : Addr} {fd : FuncData} {N ps : List Str} {k : Nat} {body : SS} (ea : String → Addr) (F : Fun K x qual st f fd) (S : FnScope N ps (defScope st)) (h0 : 0 < ps.length)
    (h : ∀ (cdv : Value) (A : Around) (outer : List PySem.Env) (s : Shared) (H : Hp) (E : XK), Room k (A.deeper (envOfC qual (defScope st) s.heap.objs.size f cdv)) →
      DSs ⟨K, ⟨ea, []⟩⟩ (cxOf (L2N.CX P w) P w K mg base N qual (defScope st) f cdv A outer s H E) (wE E) (defBody st) body) : FnOk P w K mg base (L2N.CX P w) (k + 1) f fd ps (spI ⟨K, ⟨ea, []⟩⟩ ps.length (runI N.length ps.length body)) := by
  refine okN F S (fun vs H Q E ⟨_, _, _, _, _, _, _, hl, _⟩ => hl) fun cdv A outer s H vs Q E hr ⟨p, ws, d0, ds, F0, Rv, hv, hl, ap, ow, r, q⟩ => ⟨_, h cdv A outer s H E hr, ?_⟩
  have e0 : L2.start N vs = some (.ref p) :: (ws.map some ++ List.replicate (N.length - ps.length) none) := by unfold L2.start; rw [hl, hv]; rfl
  rw [e0]
  refine ⟨_, F0, Rv, { l := [(0, p)] }, rel_startI ap ow r, ?_⟩
  unfold runI at q
  have fin : ∀ {ρ' : Env} {σ' : L2.St} {H' F' : Hp} {z : D}, Rel K ({ l := [(0, p)] } : Io []) Rv ρ' F' σ' H' → lastIo ρ' = [z] → OwnAt K F' Rv H' p z := fun {ρ' σ' H' F' z} rel e => by
    obtain ⟨⟨d, e1⟩, e2⟩ := rel.ios (0, p) (List.mem_singleton.mpr rfl)
    unfold lastIo at e
    rw [e1] at e
    cases e
    obtain ⟨p', e3, w⟩ := rel.heldAt e1 rfl
    rw [e2] at e3
    cases e3
    exact w
  have fin2 : ∀ {ρ' : Env} {σ' : L2.St} {H' F' : Hp}, Rel K ({ l := [(0, p)] } : Io []) Rv ρ' F' σ' H' → ∃ z, lastIo ρ' = [z] := fun {ρ' σ' H' F'} rel => by
    obtain ⟨⟨d, e1⟩, e2⟩ := rel.ios (0, p) (List.mem_singleton.mpr rfl)
    exact ⟨d, by unfold lastIo; rw [e1]⟩
  have q : (match (match body (Cell.io d0 :: (ds.map Cell.fro ++ List.replicate (N.length - ps.length) Cell.no)) with
    | .ok (.rt d) ρ => FR.ok d (lastIo ρ)
    | .ok .nx ρ => .ok .non (lastIo ρ)
    | _ => .stuck) with
    | .ok d [z] => ∀ v H' F', FLe F0 F' → Apart F' Rv H' → OwnAt K F' Rv H' p z → Rp K F' v d → Q v H'
    | _ => False) := q
  cases e : body (Cell.io d0 :: (ds.map Cell.fro ++ List.replicate (N.length - ps.length) Cell.no)) with
  | stuck => rw [e] at q; exact q.elim
  | exc x ρ' => rw [e] at q; exact q.elim
  | ok fl ρ' =>
    rw [e] at q
    cases fl with
    | nx =>
      intro σ' H' F' le rel
      obtain ⟨z, hz⟩ := fin2 rel
      simp only [hz] at q
      exact q _ H' F' le ⟨rel.fH, rel.rH, rel.dj, rel.nt⟩ (fin rel hz) .non
    | bk => exact q.elim
    | ct => exact q.elim
    | rt d =>
      intro v σ' H' F' le rel rp
      obtain ⟨z, hz⟩ := fin2 rel
      simp only [hz] at q
      exact q v H' F' le ⟨rel.fH, rel.rH, rel.dj, rel.nt⟩ (fin rel hz) rp
theorem takes0N {X : Cx} : L2N.Takes X (fun _ _ _ _ => False) := fun _ _ x => by
  obtain ⟨_, _, _, _, _, _, _, _, _, _, _, _, _, _, _, _, z⟩ := x
  exact z.elim
theorem at_blk {X : Cx} {W : WX} (hu : At X W) {s : Shared} {H : Hp} {scope : Scope} {cenv : PySem.Env} {fp : List Addr} : At (X.blk s H scope cenv fp) W0 := ⟨hu.calm, hu.nd, hu.un, takes0N⟩
theorem cal_P {x : Str} {st : Stmt} {N ps : List Str} {k : Nat} {body : SS} (ea : String → Addr) (F : Fn K mg x st ps) (S : FnScope N ps (defScope st))
    (h : ∀ (f : Addr) (cdv : Value) (A : Around) (outer : List PySem.Env) (s : Shared) (H : Hp) (E : XK), Room k (A.deeper (envOfC x (defScope st) s.heap.objs.size f cdv)) →
      DSs ⟨K, ⟨ea, []⟩⟩ (cxOf (L2N.CX P w) P w K mg base N x (defScope st) f cdv A outer s H E) (wE E) (defBody st) body) : Cal P w K mg base x (k + 1) (spP ⟨K, ⟨ea, []⟩⟩ ps.length (runP N.length ps.length body)) := by
  obtain ⟨f, fd, F, hm, hb⟩ := F.there
  exact ⟨f, fd, ps, d_defP ea F S (h f), hm, F.kp, hb⟩
theorem cal_I {x : Str} {st : Stmt} {N ps : List Str} {k : Nat} {body : SS} (ea : String → Addr) (F : Fn K mg x st ps) (S : FnScope N ps (defScope st)) (h0 : 0 < ps.length)
    (h : ∀ (f : Addr) (cdv : Value) (A : Around) (outer : List PySem.Env) (s : Shared) (H : Hp) (E : XK), Room k (A.deeper (envOfC x (defScope st) s.heap.objs.size f cdv)) →
      DSs ⟨K, ⟨ea, []⟩⟩ (cxOf (L2N.CX P w) P w K mg base N x (defScope st) f cdv A outer s H E) (wE E) (defBody st) body) : Cal P w K mg base x (k + 1) (spI ⟨K, ⟨ea, []⟩⟩ ps.length (runI N.length ps.length body)) := by
  obtain ⟨f, fd, F, hm, hb⟩ := F.there
  exact ⟨f, fd, ps, d_defI ea F S h0 (h f), hm, F.kp, hb⟩
/-- no turn left -/
theorem cal_P0 {x : Str} {st : Stmt} {N ps : List Str} (k : Nat) (ea : String → Addr) (F : Fn K mg x st ps) (S : FnScope N ps (defScope st)) : Cal P w K mg base x (k + 1) (spP ⟨K, ⟨ea, []⟩⟩ ps.length fun _ => .stuck) := by
  obtain ⟨f, fd, F, hm, hb⟩ := F.there
  exact ⟨f, fd, ps, okN F S (fun vs H Q E ⟨_, _, _, hl, _⟩ => hl) fun _ _ _ _ _ _ _ _ _ ⟨_, _, _, _, _, _, q⟩ => q.elim, hm, F.kp, hb⟩
theorem cal_I0 {x : Str} {st : Stmt} {N ps : List Str} (k : Nat) (ea : String → Addr) (F : Fn K mg x st ps) (S : FnScope N ps (defScope st)) : Cal P w K mg base x (k + 1) (spI ⟨K, ⟨ea, []⟩⟩ ps.length fun _ => .stuck) := by
  obtain ⟨f, fd, F, hm, hb⟩ := F.there
  exact ⟨f, fd, ps, okN F S (fun vs H Q E ⟨_, _, _, _, _, _, _, hl, _⟩ => hl) fun _ _ _ _ _ _ _ _ _ ⟨_, _, _, _, _, _, _, _, _, _, _, q⟩ => q.elim, hm, F.kp, hb⟩
def mInsert (ds es : List D) : Option (D × List D) := match es with
  | [.int i, d] => if ds.length < sizeLine ∧ 0 ≤ i ∧ i < 2 ^ 63 then some (.non, ds.take i.toNat ++ [d] ++ ds.drop i.toNat) else none
  | _ => none
theorem lmut_insert {G : Gx} : LMut G (fun x vs H Q => ∃ (l : Addr) (xs : List V) (i : Int) (y : V), x = V.ref l ∧ vs = [V.int i, y] ∧ H l = some (.lst xs) ∧ xs.length < sizeLine ∧ 0 ≤ i ∧ i < 2 ^ 63 ∧ Q V.non (upd H l (.lst (xs.take i.toNat ++ [y] ++ xs.drop i.toNat)))) mInsert := fun F H p vs ds xs es z ds' Q fh hp r rx e q => by
  unfold mInsert at e
  split at e
  · split at e
    · rename_i hz
      cases e
      cases rx with
      | cons a b =>
        cases b with
        | cons b c => cases c; cases a; exact ⟨p, vs, _, _, rfl, rfl, hp, by rw [r.length]; exact hz.1, hz.2.1, hz.2.2, q _ _ .non (((r.take _).append (.cons b .nil)).append (r.drop _))⟩
    · cases e
  · cases e
end
/-- a module's constant that is no object -/
theorem d_glob {v : V} {d : D} (hg : Gl X x) (hm : ∃ u, X.mg x = some u ∧ RelV v u) (rp : ∀ F, Rp X.K F v d) (hd : (x == ("__debug__" : Str)) = false := by decide) : DE (GK X ex) X W (.Name x p) (sCst d) :=
  let ⟨_, h1, h2⟩ := hm
  d_cst (pe_glob hg h1 h2 hd) rp
/-- no test -/
def tT1 : ST := fun ρ => .ok true ρ
theorem pts_nilT : PTs X [] (tT (GK X ex) W tT1) := ⟨fun pins s σ H Q I ⟨ρ, F, Rv, io, rel, q⟩ => pts_nil.run pins s σ H Q I (q H F (FLe.refl F) rel)⟩
end
end Dt

set_option Elab.async false
set_option linter.all false
set_option maxRecDepth 100000
/-! Plain reckoning: what the combinators are, as rewriting rules; loops by their invariants; data of bounded size. -/
namespace Dt
open PySem

/-- the first part is reckoned, then the rest -/
@[simp ↓] theorem ev_bind {α β : Type} (r : R α) (f : α → Env → R β) : r.bind f = match r with | .ok a ρ => f a ρ | .exc x ρ => .exc x ρ | .stuck => .stuck := rfl
@[simp] theorem ev_loc (i : Nat) (ρ : Env) : sLoc i ρ = match ρ[i]? with | some .no => .stuck | none => .stuck | _ => .ok (.loc i) ρ := rfl
@[simp] theorem ev_var (i : Nat) (ρ : Env) : sVar i ρ = match ρ[i]? with | some (.fro d) => .ok d ρ | some (.own d) => .ok d (ρ.set i (.fro d)) | _ => .stuck := rfl
@[simp] theorem ev_gSet (i : Nat) (d : D) (ρ : Env) : gSet i d ρ = match ρ[i]? with | some (.io _) => .stuck | none => .stuck | _ => .ok () (ρ.set i (.fro d)) := rfl
@[simp] theorem ev_gOwn (i : Nat) (d : D) (ρ : Env) : gOwn i d ρ = match ρ[i]? with | some (.io _) => .stuck | none => .stuck | _ => .ok () (ρ.set i (.own d)) := rfl
@[simp] theorem ev_held (ρ : Env) (i : Nat) : held ρ i = (ρ[i]?).bind Cell.held := rfl
@[simp] theorem ev_put (ρ : Env) (i : Nat) (d : D) : put ρ i d = match ρ[i]? with | some c => ρ.set i (c.put d) | none => ρ := rfl
@[simp] theorem ev_heldL (ρ : Env) (i : Nat) : heldL ρ i = match held ρ i with | some (.lst ds) => some ds | _ => none := rfl
@[simp] theorem ev_gPut (i : Nat) (sk : SO) (z : D) (ρ : Env) : gPut i sk z ρ = match held ρ i with
  | none => .stuck
  | some _ => (sk ρ).bind fun o ρ' => match held ρ' i, o.get ρ' with
    | some d, some k => match putD d k z with
      | some d' => .ok () (put ρ' i d')
      | none => .stuck
    | _, _ => .stuck := rfl
@[simp] theorem ev_mut (i : Nat) (f : List D → List D → Option (D × List D)) (s : SA) (ρ : Env) : sMut i f s ρ = match heldL ρ i with
  | none => .stuck
  | some _ => (s ρ).bind fun es ρ' => match heldL ρ' i with
    | none => .stuck
    | some ds => match f ds es with
      | some r => .ok r.1 (put ρ' i (.lst r.2))
      | none => .stuck := rfl
@[simp] theorem ev_callI (i n : Nat) (g : List D → FR) (s : SA) (ρ : Env) : sCallI i n g s ρ = match held ρ i with
  | none => .stuck
  | some _ => (s ρ).bind fun ds ρ' => match held ρ' i with
    | none => .stuck
    | some d0 => if ds.length + 1 = n then endI i (g (d0 :: ds)) ρ' else .stuck := rfl
@[simp] theorem ev_cst (d : D) (ρ : Env) : sCst d ρ = .ok d ρ := rfl
@[simp] theorem ev_val (s : SE) (ρ : Env) : sVal s ρ = (s ρ).bind fun d ρ' => .ok (.val d) ρ' := rfl
@[simp] theorem ev_nil (ρ : Env) : sNil ρ = .ok [] ρ := rfl
@[simp] theorem ev_cons (s : SE) (t : SA) (ρ : Env) : sCons s t ρ = (s ρ).bind fun d ρ1 => (t ρ1).bind fun ds ρ2 => .ok (d :: ds) ρ2 := rfl
@[simp] theorem ev_bnil (ρ : Env) : bNil ρ = .ok [] ρ := rfl
@[simp] theorem ev_bcons (s : SO) (t : SB) (ρ : Env) : bCons s t ρ = (s ρ).bind fun d ρ1 => (t ρ1).bind fun ds ρ2 => .ok (d :: ds) ρ2 := rfl
@[simp] theorem ev_b1 (s : SO) (ρ : Env) : b1 s ρ = (s ρ).bind fun d ρ1 => .ok [d] ρ1 := rfl
@[simp] theorem ev_b2 (s t : SO) (ρ : Env) : b2 s t ρ = (s ρ).bind fun d ρ1 => (t ρ1).bind fun e ρ2 => .ok [d, e] ρ2 := by
  show (s ρ).bind _ = (s ρ).bind _
  congr 1
  funext d ρ1
  show (bCons t bNil ρ1).bind _ = _
  rw [ev_bcons]
  cases t ρ1 <;> rfl
@[simp] theorem ev_ops (g : List D → Option D) (s : SB) (ρ : Env) : sOps g s ρ = (s ρ).bind fun os ρ' => ofO ((getAll ρ' os).bind g) ρ' := rfl
@[simp] theorem ev_ofS {α : Type} (a : α) (ρ : Env) : ofO (some a) ρ = .ok a ρ := rfl
@[simp] theorem ev_ofN {α : Type} (ρ : Env) : ofO (none : Option α) ρ = .stuck := rfl
@[simp] theorem ev_getV (d : D) (ρ : Env) : (Opd.val d).get ρ = some d := rfl
@[simp] theorem ev_getL (i : Nat) (ρ : Env) : (Opd.loc i).get ρ = (ρ[i]?).bind Cell.data := rfl
@[simp] theorem ev_all0 (ρ : Env) : getAll ρ [] = some [] := rfl
@[simp] theorem ev_all1 (o : Opd) (os : List Opd) (ρ : Env) : getAll ρ (o :: os) = (o.get ρ).bind fun d => (getAll ρ os).map fun ds => d :: ds := rfl
@[simp] theorem cd_fro (d : D) : (Cell.fro d).data = some d := rfl
@[simp] theorem cd_own (d : D) : (Cell.own d).data = some d := rfl
@[simp] theorem cd_io (d : D) : (Cell.io d).data = some d := rfl
@[simp] theorem cd_no : Cell.no.data = none := rfl
@[simp] theorem ch_fro (d : D) : (Cell.fro d).held = none := rfl
@[simp] theorem ch_own (d : D) : (Cell.own d).held = some d := rfl
@[simp] theorem ch_io (d : D) : (Cell.io d).held = some d := rfl
@[simp] theorem ch_no : Cell.no.held = none := rfl
@[simp] theorem cp_own (d e : D) : (Cell.own d).put e = .own e := rfl
@[simp] theorem cp_io (d e : D) : (Cell.io d).put e = .io e := rfl
@[simp] theorem ev_tst (s : SE) (ρ : Env) : sTst s ρ = (s ρ).bind fun d ρ' => match d with | .bl k => .ok k ρ' | _ => .stuck := rfl
@[simp] theorem ev_chain (g g' : List D → Option D) (sa sb sc : SO) (ρ : Env) : sChain g g' sa sb sc ρ = (sa ρ).bind fun x ρ1 => (sb ρ1).bind fun y ρ2 => (ofO ((getAll ρ2 [x, y]).bind g) ρ2).bind fun z ρ2 => match z with
  | .bl true => (sc ρ2).bind fun w ρ3 => ofO ((getAll ρ3 [y, w]).bind g') ρ3
  | .bl false => .ok (.bl false) ρ2
  | _ => .stuck := rfl
@[simp] theorem ev_tru (s : SO) (ρ : Env) : sTru s ρ = (s ρ).bind fun o ρ' => ofO ((o.get ρ').bind D.truth) ρ' := rfl
@[simp] theorem ev_and (s t : ST) (ρ : Env) : tAndS s t ρ = (s ρ).bind fun k ρ' => match k with | true => t ρ' | false => .ok false ρ' := rfl
@[simp] theorem ev_or (s t : ST) (ρ : Env) : tOrS s t ρ = (s ρ).bind fun k ρ' => match k with | true => .ok true ρ' | false => t ρ' := rfl
@[simp] theorem ev_tnot (s : ST) (ρ : Env) : tNotS s ρ = (s ρ).bind fun k ρ' => .ok (!k) ρ' := rfl
@[simp] theorem ev_sand (s t : SE) (ρ : Env) : sAnd s t ρ = (s ρ).bind fun d ρ' => match d.truth with | some true => t ρ' | some false => .ok d ρ' | none => .stuck := rfl
@[simp] theorem ev_sor (s t : SE) (ρ : Env) : sOr s t ρ = (s ρ).bind fun d ρ' => match d.truth with | some true => .ok d ρ' | some false => t ρ' | none => .stuck := rfl
@[simp] theorem ev_not (s : SO) (ρ : Env) : sNot s ρ = (sTru s ρ).bind fun k ρ' => .ok (.bl (!k)) ρ' := rfl
@[simp] theorem ev_if (t : ST) (a b : SE) (ρ : Env) : sIf t a b ρ = (t ρ).bind fun k ρ' => match k with | true => a ρ' | false => b ρ' := rfl
@[simp] theorem tr_bl (b : Bool) : (D.bl b).truth = some b := rfl
@[simp] theorem tr_non : D.non.truth = some false := rfl
@[simp] theorem tr_int (i : Int) : (D.int i).truth = some (i != 0) := rfl
@[simp] theorem ev_pn (ρ : Env) : sPn ρ = .ok none ρ := rfl
@[simp] theorem ev_pe (s : SE) (ρ : Env) : sPe s ρ = (s ρ).bind fun d ρ' => match d with | .int i => .ok (some i) ρ' | _ => .stuck := rfl
@[simp] theorem ev_slice (s : SO) (lo hi : SP') (ρ : Env) : sSlice s lo hi ρ = (s ρ).bind fun o ρ1 => (lo ρ1).bind fun l ρ2 => (hi ρ2).bind fun h ρ3 => ofO ((o.get ρ3).bind fun d => sliceD d l h) ρ3 := rfl
@[simp] theorem ev_rev (s : SO) (ρ : Env) : sRev s ρ = (s ρ).bind fun o ρ' => match o.get ρ' with | some (.lst xs) => .ok (.lst xs.reverse) ρ' | _ => .stuck := rfl
@[simp] theorem ev_tup (s : SA) (ρ : Env) : sTup s ρ = (s ρ).bind fun ds ρ' => if ds.length ≤ sizeLine then .ok (.tup ds) ρ' else .stuck := rfl
@[simp] theorem ev_lst (s : SA) (ρ : Env) : sLst s ρ = (s ρ).bind fun ds ρ' => if ds.length ≤ sizeLine then .ok (.lst ds) ρ' else .stuck := rfl
@[simp] theorem ev_isi (ts : List String) (s : SO) (ρ : Env) : sIsi ts s ρ = (s ρ).bind fun o ρ' => ofO ((o.get ρ').bind (isTo ts)) ρ' := rfl
@[simp] theorem isTo_non {ts : List String} : isTo ts .non = some (.bl (ts.any (isT .non))) := rfl
@[simp] theorem isTo_bl {ts : List String} {b : Bool} : isTo ts (.bl b) = some (.bl (ts.any (isT (.bl b)))) := rfl
@[simp] theorem isTo_int {ts : List String} {b : Int} : isTo ts (.int b) = some (.bl (ts.any (isT (.int b)))) := rfl
@[simp] theorem isTo_str {ts : List String} {b : Str} : isTo ts (.str b) = some (.bl (ts.any (isT (.str b)))) := rfl
@[simp] theorem isTo_tup {ts : List String} {b : List D} : isTo ts (.tup b) = some (.bl (ts.any (isT (.tup b)))) := rfl
@[simp] theorem isTo_lst {ts : List String} {b : List D} : isTo ts (.lst b) = some (.bl (ts.any (isT (.lst b)))) := rfl
@[simp] theorem isTo_scr {ts : List String} {b : List Int} : isTo ts (.scr b) = some (.bl (ts.any (isT (.scr b)))) := rfl
@[simp] theorem isTo_arg {ts : List String} {b : List D} : isTo ts (.arg b) = some (.bl (ts.any (isT (.arg b)))) := rfl
@[simp] theorem isTo_dct {ts : List String} {ks : List L2.Key} {ds : List D} : isTo ts (.dct ks ds) = some (.bl (ts.any (isT (.dct ks ds)))) := rfl
@[simp] theorem ev_iAny (s : SE) (ρ : Env) : iAny s ρ = (s ρ).bind fun d ρ' => ofO (itemsD d) ρ' := rfl
@[simp] theorem ev_iRng1 (s : SA) (ρ : Env) : iRng1' s ρ = (s ρ).bind fun ds ρ' => ofO (rng1D ds) ρ' := rfl
@[simp] theorem ev_iRng2 (s : SA) (ρ : Env) : iRng2' s ρ = (s ρ).bind fun ds ρ' => ofO (rng2D ds) ρ' := rfl
@[simp] theorem ev_asg (g : SG) (s : SE) (ρ : Env) : sAsg g s ρ = (s ρ).bind fun d ρ' => (g d ρ').bind fun _ ρ'' => .ok .nx ρ'' := rfl
@[simp] theorem ev_expr (s : SE) (ρ : Env) : sExpr s ρ = (s ρ).bind fun _ ρ' => .ok .nx ρ' := rfl
@[simp] theorem ev_ret (s : SE) (ρ : Env) : sRet s ρ = (s ρ).bind fun d ρ' => .ok (.rt d) ρ' := rfl
@[simp] theorem ev_nx (ρ : Env) : sNx ρ = .ok .nx ρ := rfl
@[simp] theorem ev_seq (a b : SS) (ρ : Env) : sSeq a b ρ = (a ρ).bind fun f ρ' => match f with | .nx => b ρ' | f => .ok f ρ' := rfl
@[simp] theorem ev_ifS (t : ST) (a b : SS) (ρ : Env) : sIfS t a b ρ = (t ρ).bind fun k ρ' => match k with | true => a ρ' | false => b ρ' := rfl
@[simp] theorem ev_tT1 (ρ : Env) : tT1 ρ = .ok true ρ := rfl
@[simp] theorem ev_gTup (n : Nat) (gs : SGs) (d : D) (ρ : Env) : gTup' n gs d ρ = match d with | .tup ds => if ds.length = n then gs ds ρ else .stuck | .lst ds => if ds.length = n then gs ds ρ else .stuck | .arg ds => if ds.length = n then gs ds ρ else .stuck | _ => .stuck := rfl
@[simp] theorem ev_gN0 (ρ : Env) : gN [] ρ = .ok () ρ := rfl
@[simp] theorem ev_gC (g : SG) (gs : SGs) (d : D) (ds : List D) (ρ : Env) : gC g gs (d :: ds) ρ = (g d ρ).bind fun _ ρ' => gs ds ρ' := rfl
@[simp] theorem ev_callP (n : Nat) (g : List D → FR) (s : SA) (ρ : Env) : sCallP n g s ρ = (s ρ).bind fun ds ρ' => if ds.length = n then endP (g ds) ρ' else .stuck := rfl
@[simp] theorem ev_endP (d : D) (o : List D) (ρ : Env) : endP (.ok d o) ρ = .ok d ρ := rfl
@[simp] theorem ev_endPx (x : Exn) (ρ : Env) : endP (.exc x) ρ = .exc x ρ := rfl
@[simp] theorem ev_endI (i : Nat) (d z : D) (ρ : Env) : endI i (.ok d [z]) ρ = .ok d (put ρ i z) := rfl
@[simp] theorem noX_ok {α : Type} (a : α) (ρ : Env) : noX (.ok a ρ) = .ok a ρ := rfl
@[simp] theorem blsOf_nil : blsOf [] = some [] := rfl
@[simp] theorem blsOf_cons (b : Bool) (ds : List D) : blsOf (.bl b :: ds) = (blsOf ds).map fun r => b :: r := rfl
theorem line_pos {n : Nat} (h : n ≤ 16777216) : n ≤ sizeLine := by
  rw [show sizeLine = 16777216 from by decide]
  exact h

/-! ### loops by their invariants -/
theorem for_inv {I : Env → Prop} {g : SG} {s : SS} : ∀ {ds : List D} {ρ : Env}, (∀ d ∈ ds, ∀ ρ, I ρ → ∃ ρ1 ρ2 f, g d ρ = .ok () ρ1 ∧ s ρ1 = .ok f ρ2 ∧ (f = .nx ∨ f = .ct) ∧ I ρ2) → I ρ → ∃ ρ', forGo g s ds ρ = .ok .nx ρ' ∧ I ρ'
  | [], ρ, _, hi => ⟨ρ, rfl, hi⟩
  | d :: ds, ρ, h, hi => by
    obtain ⟨ρ1, ρ2, f, e1, e2, hf, i2⟩ := h d (List.mem_cons_self) ρ hi
    obtain ⟨ρ', e3, i3⟩ := for_inv (fun d hd => h d (List.mem_cons_of_mem _ hd)) i2
    refine ⟨ρ', ?_, i3⟩
    unfold forGo
    rw [e1, R.bind_ok, e2, R.bind_ok]
    rcases hf with rfl | rfl <;> exact e3
/-- every item kept: what is made of each -/
theorem comp_inv {I : Env → Prop} {P : D → Prop} {vs : List Nat} {g : SG} {t : ST} {s : SE} : ∀ {ds : List D} {ρ : Env}, (∀ d ∈ ds, ∀ ρ, I ρ → ∃ ρ1 ρ2 ρ3 z, g d ρ = .ok () ρ1 ∧ t ρ1 = .ok true ρ2 ∧ s ρ2 = .ok z ρ3 ∧ plainAt ρ3 vs = true ∧ I (wipeE ρ3 vs) ∧ P z) → I ρ →
    ∃ zs ρ', compGo vs g t s ds ρ = .ok zs ρ' ∧ I ρ' ∧ zs.length = ds.length ∧ ∀ z ∈ zs, P z
  | [], ρ, _, hi => ⟨[], ρ, rfl, hi, rfl, fun _ h => nomatch h⟩
  | d :: ds, ρ, h, hi => by
    obtain ⟨ρ1, ρ2, ρ3, z, e1, e2, e3, hp, i3, pz⟩ := h d (List.mem_cons_self) ρ hi
    obtain ⟨zs, ρ', e4, i4, hl, pzs⟩ := comp_inv (fun d hd => h d (List.mem_cons_of_mem _ hd)) i3
    refine ⟨z :: zs, ρ', ?_, i4, by simp [hl], fun y hy => ?_⟩
    · unfold compGo
      rw [e1, R.bind_ok, e2, R.bind_ok]
      show (s ρ2).bind _ = _
      rw [e3, R.bind_ok, if_pos hp, e4, R.bind_ok]
    · rcases List.mem_cons.mp hy with rfl | hy
      · exact pz
      · exact pzs y hy
/-- a comprehension that computes f of each item that p keeps, in an environment that stays -/
theorem comp_map {vs : List Nat} {g : SG} {t : ST} {s : SE} {f : D → D} {p : D → Bool} {ρ : Env} : ∀ {ds : List D}, (∀ d ∈ ds, ∃ ρ1 ρ2, g d ρ = .ok () ρ1 ∧ t ρ1 = .ok (p d) ρ2 ∧ plainAt ρ2 vs = true ∧ wipeE ρ2 vs = ρ ∧ (p d = true → ∃ ρ3, s ρ2 = .ok (f d) ρ3 ∧ plainAt ρ3 vs = true ∧ wipeE ρ3 vs = ρ)) →
    compGo vs g t s ds ρ = .ok ((ds.filter p).map f) ρ
  | [], _ => rfl
  | d :: ds, h => by
    obtain ⟨ρ1, ρ2, e1, e2, h1, h2, h3⟩ := h d (List.mem_cons_self)
    have ih := comp_map (fun d hd => h d (List.mem_cons_of_mem _ hd))
    unfold compGo
    rw [e1, R.bind_ok, e2, R.bind_ok]
    cases hp : p d with
    | false =>
      show (if plainAt ρ2 vs = true then _ else _) = _
      rw [if_pos h1, h2, ih, List.filter_cons_of_neg (by simp [hp])]
    | true =>
      obtain ⟨ρ3, e3, h4, h5⟩ := h3 hp
      show (s ρ2).bind _ = _
      rw [e3, R.bind_ok, if_pos h4, h5, ih, R.bind_ok, List.filter_cons_of_pos (by simp [hp]), List.map_cons]
end Dt

set_option Elab.async false
set_option linter.all false
set_option maxRecDepth 100000
set_option maxHeartbeats 4000000
/-! The set of a list of texts, however many: its length. -/
namespace Dt
open PySem PySem.Spec PyProof.Rows
/-- one more text -/
def kindS (σ : List Str) (x : Str) : List Str := if x ∈ σ then σ else σ ++ [x]
/-- the unlike texts, in the order of their first places -/
def kinds (xs : List Str) : List Str := xs.foldl kindS []
theorem kinds_snoc (xs : List Str) (x : Str) : kinds (xs ++ [x]) = kindS (kinds xs) x := by
  unfold kinds
  rw [List.foldl_append]
  rfl
theorem mem_kindS {σ : List Str} {x y : Str} : y ∈ kindS σ x ↔ y ∈ σ ∨ y = x := by
  unfold kindS
  split
  · rename_i h
    exact ⟨.inl, fun q => q.elim id fun e => by rw [e]; exact h⟩
  · rw [List.mem_append, List.mem_singleton]
theorem len_kindS (σ : List Str) (x : Str) : (kindS σ x).length = if x ∈ σ then σ.length else σ.length + 1 := by
  unfold kindS
  split <;> simp
theorem kinds_len_go : ∀ (xs σ : List Str), (xs.foldl kindS σ).length ≤ σ.length + xs.length
  | [], σ => Nat.le_refl _
  | x :: xs, σ => by
    have h := kinds_len_go xs (kindS σ x)
    rw [len_kindS] at h
    rw [List.foldl_cons, List.length_cons]
    split at h <;> omega
theorem kinds_len (xs : List Str) : (kinds xs).length ≤ xs.length := by
  have := kinds_len_go xs []
  simpa [kinds] using this
theorem take_snoc {xs : List Str} {i : Nat} (h : i < xs.length) : xs.take (i + 1) = xs.take i ++ [xs.getD i Str.empty] := by
  rw [List.take_succ, List.getD_eq_getElem?_getD, List.getElem?_eq_getElem h]
  rfl
def seen (xs : List Str) (i : Nat) : Str → Bool := fun k => decide (k ∈ kinds (xs.take i))
abbrev SeenAt (prog : Program) (w : World) (S : Addr) (xs : List Str) (i : Nat) (h : Heap) : Prop := h.SetOf (PySem.strKind prog w) S (seen xs i) (kinds (xs.take i)).length
section
variable {prog : Program} {w : World} {A : Around} {R : Result → Shared → Prop} {I : Addr} {fp wr : List Addr} {G : Array GenState → Array GenState → Prop} {n : Nat} {P : Nat → Value → Prop} {St : Nat → Shared → Prop}
theorem loop_texts (W : WalksS prog w A.in1 I fp wr G n P St) (S : Addr) (away : S ∉ fp) (xs : List Str) (len : xs.length = n) (room : n + 1 < scanBound) (val : ∀ i v, P i v → ∃ t, v = .str (xs.getD i Str.empty) t)
    : ∀ (k i : Nat) (s : Shared), n - i = k → i ≤ n → St i s → SeenAt prog w S xs i s.heap →
      (∀ t, Moved (S :: wr) G s t → SeenAt prog w S xs n t.heap → R (.ok (.ret .none)) t) → codeAny (model prog w) A (.builtin "set.update.loop" ⟨[.ref S, .ref I], []⟩) R s := by
  have notW : S ∉ wr := fun q => away (W.sub _ q)
  have wide : ∀ b ∈ wr, b ∈ S :: wr := fun b q => .tail _ q
  have keep : ∀ {i : Nat} {s t : Shared}, Moved wr G s t → SeenAt prog w S xs i s.heap → SeenAt prog w S xs i t.heap := fun m ⟨o, es, ep, tb, ho, more⟩ => ⟨o, es, ep, tb, m.heap S _ notW ho, more⟩
  intro k
  induction k with
  | zero =>
    intro i s hk le st hS fin
    obtain rfl : i = n := by omega
    refine codeAny_builtin F.entry_set_update_loop (by rw [Around.under_plainId F.plain_set_update_loop _]; exact (show wpAny _ A.in1 (pyNext (.ref I) >>= _) _ _ s from wpAny_bind (W.done s _ _ st fun t m => (show wpAny _ A.in1 (ret Value.none) _ _ t from wpAny_pure (fin t (m.mono wide) (keep m hS)))))) 
  | succ k ih =>
    intro i s hk le st hS fin
    have lt : i < n := by omega
    refine codeAny_builtin F.entry_set_update_loop ?_; rw [Around.under_plainId F.plain_set_update_loop _]
    refine (show wpAny _ A.in1 (pyNext (.ref I) >>= _) _ _ s from wpAny_bind (W.item i s _ _ lt st fun v t hv st' m => ?_))
    obtain ⟨tk, rfl⟩ := val i v hv
    have hS' := keep m hS
    refine (show wpAny _ A.in1 (holding [Value.str (xs.getD i Str.empty) tk] (setAdd S (.str (xs.getD i Str.empty) tk)) >>= _) _ _ t from wpAny_bind (wpAny_holding ?_))
    unfold setAdd
    have space : (kinds (xs.take i)).length + 1 < scanBound := by have := kinds_len (xs.take i); rw [List.length_take] at this; omega
    refine wpAny_holding (wpAny_bind ((PySem.strKind prog w).pyHash (k := xs.getD i Str.empty) (strKind_is _ _ _ _) ?_))
    refine wpAny_setAddHashed_of (knd := PySem.strKind prog w) (s := { t with toks := t.toks + 1 }) (strKind_is _ _ _ _) rfl hS' space fun h1 only hS2 => ?_
    have hS3 : SeenAt prog w S xs (i + 1) h1 := SetOf_congr hS2 (fun y => by
      unfold seen
      rw [take_snoc (by omega), kinds_snoc, Bool.eq_iff_iff, Bool.or_eq_true, decide_eq_true_iff, decide_eq_true_iff, decide_eq_true_iff, mem_kindS]) (by
      rw [take_snoc (by omega), kinds_snoc, len_kindS]
      simp [seen])
    have rest : ∀ b, b ≠ S → ∀ o, t.heap.get? b = some o → h1.get? b = some o := fun b q o e => by rw [only.2 b q]; exact e
    exact wpAny_pure ⟨plainId_quiet F.plain_set_update_loop _, ih (i + 1) _ (by omega) lt (W.frame _ t _ _ st' (Nat.le_succ _) fun b q o e => rest b (fun x => away (x ▸ q)) o e) hS3 fun u m2 hS4 =>
      fin u (Moved.trans W.gtrans ((m.mono wide).then_heap (Nat.le_succ _) fun b o q e => rest b (fun x => q (x ▸ .head _)) o e) m2) hS4⟩
end
section
variable {prog : Program} {w : World} {A : Around} {E : Value → Shared → Prop} {s : Shared}
abbrev bare (led : Bool) : Obj := { cls := .type "set", dict := none, data := .set #[] 0 (.fresh 0 0 led) }
abbrev walker (l : Addr) : Obj := { cls := .type "list_iterator", data := .fields #[.ref l, .int 0 0] }
theorem call_set_texts {l : Addr} {items : Array Value} {xs : List Str} {Q : Value → Shared → Prop} (hh : A.handled = none) (hl : s.heap.IsList l items) (txt : StrsAre items.toList xs) (len : xs.length = items.size) (room : items.size + 1 < scanBound)
    (fin : ∀ (h1 : Heap) (tk : Nat), SeenAt prog w s.heap.objs.size xs items.size h1 → (∀ b o, b < s.heap.objs.size → s.heap.get? b = some o → h1.get? b = some o) → Q (.ref s.heap.objs.size) { s with heap := h1, toks := tk }) :
    wpAny (model prog w) A (call (.type "set") [.ref l]) Q E s := by
  obtain ⟨c, tl, mro⟩ := F.called_set.mro
  have k1 := F.called_set.made; have k2 := F.called_set.sub
  refine wpAny_call (codeAny_of_tree (show wpAny _ _ (callAny (.type "set") _) _ _ _ from wpAny_pure ⟨Code.quiet_builtin _ (by decide +kernel), codeAny_builtin F.entry_type_call ?_⟩))
  have k0 := Around.under_plain (A := A) (weight_type_call_type "set" [.ref l] []) rfl; rw [k0]
  have k3 := F.called_set.notType; have k4 := F.called_set.canCreate; have k5 := F.typeCall_set_1 (.ref l)
  repeat any_goals first | assumption | wp_step
  refine codeAny_mono (code_set_new_1 (.ref l) (E := E) (Q₁ := fun v t => ∃ led : Bool, v = .ref s.heap.objs.size ∧ t = { s with heap := s.heap.push (bare led) }) fun led => ⟨led, rfl, rfl⟩) fun r t hr => ?_
  match r, hr with
  | .error e, hr => exact hr
  | .ok (.ret v), hr =>
    obtain ⟨led, rfl, rfl⟩ := hr
    have at1 : (s.heap.push (bare led)).get? s.heap.objs.size = some (bare led) := Heap.get?_push_size _ rfl
    have ty : Shared.TypeIs { s with heap := s.heap.push (bare led) } (.ref s.heap.objs.size) "set" := ⟨_, at1, rfl⟩
    have k6 := F.called_set.init.lookup; have k7 := F.called_set.init.bind (.ref s.heap.objs.size)
    repeat any_goals first | assumption | wp_step
    refine codeAny_mono (codeAny_call_builtin (R := wants (fun r t => r = .none ∧ ∃ h1 tk, t = { s with heap := h1, toks := tk } ∧ SeenAt prog w s.heap.objs.size xs items.size h1 ∧ (∀ b o, b < s.heap.objs.size → s.heap.get? b = some o → h1.get? b = some o)) E) F.called_set.init.plain F.entry_set_init (check_set_init_1 ty ?_)) fun r t hr => ?_
    · obtain ⟨⟨ocls, odict, odata, oslots⟩, at2, c2, nl, d2⟩ := hl
      obtain rfl : ocls = _ := c2
      obtain rfl : odata = _ := d2
      have is1 : s.heap.IsList l items := ⟨_, at2, rfl, nl, rfl⟩
      have at3 := Heap.get?_push_of_some (bare led) at2
      have is2 : (s.heap.push (bare led)).IsList l items := ⟨_, at3, rfl, nl, rfl⟩
      have k8 := F.sub_list_set; have k9 := F.sub_list_frozenset
      have kA : (Value.type "list" == Value.type "dict") = false := by decide
      unfold Builtin.«set.__init__» noKeywords Builtin.Frozenset.updateFrom
      generalize hPI : pyIter = PI
      wp_walk
      subst hPI
      refine wpAny_pyIter_list is2 (wpAny_bind (wpAny_runValue ?_))
      have lt : l < s.heap.objs.size := Heap.lt_size at2
      have sz : (s.heap.push (bare led)).objs.size = s.heap.objs.size + 1 := Heap.size_push _ _
      have q1 : A.in1.in1.in1.handled = none := by simp [hh]
      have q2 : l ≠ (s.heap.push (bare led)).objs.size := by rw [sz]; exact Nat.ne_of_lt (Nat.lt_succ_of_lt lt)
      have q3 : s.heap.objs.size ∉ [(s.heap.push (bare led)).objs.size, l] := fun h => by
        rcases List.mem_cons.mp h with e | h
        · rw [sz] at e; exact Nat.ne_of_lt (Nat.lt_succ_self _) e
        · rw [← List.mem_singleton.mp h] at lt; exact Nat.lt_irrefl _ lt
      have at4 : ((s.heap.push (bare led)).push (walker l)).get? s.heap.objs.size = some (bare led) := Heap.get?_push_of_some _ at1
      refine loop_texts ((Walks.list q1 _ l q2 items).toS) s.heap.objs.size q3 xs len room (fun i v hv => SS.strs_at txt i v (by rw [Array.getElem?_toList]; exact hv)) (items.size - 0) 0 _ (by omega) (Nat.zero_le _) ⟨⟨_, Heap.get?_push_size _ rfl, rfl, rfl⟩, is2.push _⟩ ?_ ?_
      · exact SetOf_congr ((setObjOf_fresh (knd := PySem.strKind prog w) led).setOf at4 (by unfold scanBound; omega)) (fun _ => rfl) rfl
      · intro ⟨h1, g1, d1, t1, o1⟩ m hS
        obtain rfl : g1 = s.gens := m.gens
        obtain rfl : d1 = s.drawn := m.drawn
        obtain rfl : o1 = s.os := m.os
        refine (show wpAny _ _ _ _ _ _ from wpAny_pure (show wpAny _ _ (ret Value.none) _ _ _ from wpAny_pure ⟨rfl, h1, t1, rfl, hS, fun b o hb e => ?_⟩))
        refine m.heap b o (fun h => ?_) (Heap.get?_push_of_some _ (Heap.get?_push_of_some _ e))
        rcases List.mem_cons.mp h with q | q
        · exact Nat.ne_of_lt hb q
        · rw [List.mem_singleton.mp q, sz] at hb; exact Nat.lt_irrefl _ (Nat.lt_of_succ_lt hb)
    · match r, hr with
      | .error e, hr => exact hr
      | .ok (.ret v), hr =>
        obtain ⟨rfl, h1, tk, rfl, hS, old⟩ := hr
        repeat any_goals first | assumption | wp_step
        exact fin _ _ hS old
end
end Dt

set_option Elab.async false
set_option linter.all false
set_option maxRecDepth 100000
set_option maxHeartbeats 4000000
/-! len(set(a)), a a list of texts. -/
namespace Dt
open PySem PySem.Spec PyProof.Rows L2
section
variable {X : Cx} {W : WX} {ex : Exx} {p p2 q pos : Pos}
def tLenTx (K : PySem.W.Frag) (ta : TE) : TE := fun σ H Q => ta σ H fun x H1 => ∃ (l : Addr) (xs : List Str), x = V.ref l ∧ SqL K H1 l (xs.map V.str) ∧ xs.length + 1 < scanBound ∧ Q (V.int ((kinds xs).length : Nat)) H1
theorem pe_lenTx {a : Expr} {ta : TE} (calm : X.calm = true) (g1 : Gl X "len") (m1 : X.mg "len" = none) (g2 : Gl X "set") (m2 : X.mg "set" = none) (ha : PE X a ta) (ns : starEach [a] X.env = (false, eval a X.env) :: starEach [] X.env := by rfl) :
    PE X (.Call (.Name "len" p) [.Call (.Name "set" p2) [a] [] q] [] pos) (tLenTx X.K ta) := by
  constructor; intro pins s σ H Q I h
  refine Call_ (ld_blt I g1 m1 boot_len (callWith_builtin1 (args_cons (Call_ (ld_blt I g2 m2 boot_set (callWith_type1 (args_cons (thn (ha.run pins s σ H _ I h) fun v t ⟨x, H1, I1, r1, l, xs, e1, hq, room, q1⟩ => args_nil ?_) ns) ns rfl))) rfl) rfl rfl))
  subst e1; cases r1
  obtain ⟨its, r, pl, hz⟩ := I1.list hq
  have sz : xs.length = its.toArray.size := by rw [List.size_toArray, ← r.length, List.length_map]
  refine call_set_texts (I1.ok.hd calm) pl.isList (by simpa using strsAre_of r) sz (by omega) fun h1 tk hS old => args_nil ?_
  have small := kinds_len (xs.take its.toArray.size)
  obtain ⟨o, es, ep, tb, at1, c1, d1, _, _, _, ft, cnt⟩ := hS
  rw [← sz, List.take_length] at cnt small
  have I2 : Inv X pins σ H1 { t with heap := h1, toks := tk } := I1.kept fun b o e => old b o (Heap.lt_size e) e
  exact call_len_set at1 c1 d1 ft (by rw [cnt]; unfold scanBound at room; omega) ⟨.int (kinds xs).length, H1, I2.tok _, ⟨_, by rw [cnt]⟩, q1⟩
/-- the texts of a list of texts -/
def textsD : List D → Option (List Str)
  | [] => some []
  | .str s :: ds => (textsD ds).map fun r => s :: r
  | _ :: _ => none
theorem textsD_rps {K : PySem.W.Frag} {F : Hp} : ∀ {vs : List V} {ds : List D} {xs : List Str}, Rps K F vs ds → textsD ds = some xs → vs = xs.map V.str
  | _, _, _, .nil, h => by cases h; rfl
  | _, .str s :: ds, xs, .cons a r, h => by
    unfold textsD at h
    cases e : textsD ds with
    | none => rw [e] at h; cases h
    | some ys =>
      rw [e] at h
      cases h
      cases a
      rw [textsD_rps r e]
      rfl
def lenSetD : D → Option D
  | .lst ds => (textsD ds).bind fun xs => if xs.length + 1 < scanBound then some (.int (kinds xs).length) else none
  | _ => none
def sLenSet (s : SE) : SE := fun ρ => (s ρ).bind fun d ρ' => ofO (lenSetD d) ρ'
theorem d_lenSet {a : Expr} {sa : SE} (calm : X.calm = true) (g1 : Gl X "len") (m1 : X.mg "len" = none) (g2 : Gl X "set") (m2 : X.mg "set" = none) (ha : DE (GK X ex) X W a sa) (ns : starEach [a] X.env = (false, eval a X.env) :: starEach [] X.env := by rfl) :
    DE (GK X ex) X W (.Call (.Name "len" p) [.Call (.Name "set" p2) [a] [] q] [] pos) (sLenSet sa) := wkE (pe_lenTx calm g1 m1 g2 m2 ha ns) fun σ H Q ⟨ρ, F, Rv, io, rel, k⟩ => by
  refine ⟨ρ, F, Rv, io, rel, ?_⟩
  unfold sLenSet at k
  cases e : sa ρ with
  | stuck => rw [e] at k; exact k.elim
  | exc x ρ' => rw [e] at k; exact k
  | ok d ρ' =>
    rw [e, R.bind_ok] at k
    intro v H' F' le rel' rp
    cases rp with
    | lst t r =>
      cases e2 : textsD _ with
      | none => rw [lenSetD, e2] at k; exact k.elim
      | some xs =>
        rw [lenSetD, e2, Option.bind_some] at k
        by_cases room : xs.length + 1 < scanBound
        · rw [if_pos room] at k
          have hv := textsD_rps r e2
          subst hv
          exact ⟨_, xs, rfl, SqL.of (rel'.fH _ _ t), room, k _ H' F' le rel' (.int _)⟩
        · rw [if_neg room] at k
          exact k.elim
    | _ => exact k.elim
end
end Dt

set_option Elab.async false
set_option linter.all false
set_option maxRecDepth 100000
set_option maxHeartbeats 4000000
/-! Dict comprehensions. -/
namespace Dt
open PySem PySem.Spec PyProof.Rows L2
def dcompGo (vs : List Nat) (g : SG) (t : ST) (sk s : SE) : List D → List Key × List D → Env → R (List Key × List D)
  | [], acc, ρ => .ok acc ρ
  | d :: ds, acc, ρ => (g d ρ).bind fun _ ρ1 => (t ρ1).bind fun k ρ2 => match k with
    | true => (sk ρ2).bind fun kd ρk => (s ρk).bind fun z ρ3 => match keyOf kd with
      | none => .stuck
      | some k => if plainAt ρ3 vs = true then dcompGo vs g t sk s ds (dPut acc.1 acc.2 k z) (wipeE ρ3 vs) else .stuck
    | false => if plainAt ρ2 vs = true then dcompGo vs g t sk s ds acc (wipeE ρ2 vs) else .stuck
def sDComp (vs : List Nat) (it : SA) (g : SG) (t : ST) (sk s : SE) : SE := fun ρ => (it ρ).bind fun ds ρ1 =>
  if plainAt ρ1 vs = true ∧ ds.length ≤ sizeLine then (noX (dcompGo vs g t sk s ds ([], []) (wipeE ρ1 vs))).bind fun zs ρ2 => .ok (.dct zs.1 zs.2) (backE ρ1 ρ2 vs) else .stuck
section
variable {ex : Exx} {X : Cx} {W : WX} {tg : Expr} {pos : Pos}
theorem dcomp_core {G : Gx} {σ : L2.St} {H : Hp} {Q : VK} {it : SA} {g : SG} {t : ST} {sk s : SE} {js vs : List Nat} (hjs : js.all (fun j => vs.contains j) = true) (h : tF G W (sDComp vs it g t sk s) σ H Q) :
    tDc (tI G W it) (tG G W0 js g) (tT G W0 t) (tE G W0 sk) (tE G W0 s) vs σ H Q := by
    obtain ⟨ρ, F, Rv, io, rel, q⟩ := h
    refine ⟨ρ, F, Rv, io, rel, ?_⟩
    unfold sDComp at q
    cases e : it ρ with
    | stuck => rw [e] at q; exact q.elim
    | exc x ρ' => rw [e] at q; exact q
    | ok ds ρ1 =>
      rw [e, R.bind_ok] at q
      intro J H1 F1 le1 rel1 J1 Dl hD
      by_cases hp : plainAt ρ1 vs = true ∧ ds.length ≤ sizeLine
      case neg => rw [if_neg hp] at q; exact q.elim
      rw [if_pos hp] at q
      obtain ⟨hpl, hz⟩ := hp
      cases e2 : dcompGo vs g t sk s ds ([], []) (wipeE ρ1 vs) with
      | stuck => rw [e2] at q; exact q.elim
      | exc x ρ' => rw [e2] at q; exact q.elim
      | ok zs ρe =>
        rw [e2] at q
        have nR : Rv Dl = none := rel1.rH.noneOf hD
        refine ⟨fun i m H => m = ds.length - i ∧ i ≤ ds.length ∧ ∃ (ρi : Env) (Fi : Hp) (acc : List (Key × V)) (dn : List D), FLe F1 Fi ∧ Rel G.K io (upd Rv Dl (.dK acc)) ρi Fi (wipe σ vs) H ∧ acc.length ≤ i ∧ Rps G.K Fi (acc.map (·.2)) dn ∧
          dcompGo vs g t sk s (ds.drop i) (acc.map (·.1), dn) ρi = .ok zs ρe, ⟨ds.length, rfl.trans (Nat.sub_zero _).symm, Nat.zero_le _, wipeE ρ1 vs, F1, [], [], FLe.refl _, (rel1.wiped hpl).resAdd hD _, Nat.le_refl _, .nil, e2⟩, ?_⟩
        rintro i m H ⟨rfl, hi, ρi, Fi, acc, dn, lei, reli, hacc, racc, hgo⟩
        by_cases hlt : i < ds.length
        · obtain ⟨d, hd, hdr⟩ := drop_at hlt
          rw [hdr] at hgo
          unfold dcompGo at hgo
          refine .inr ⟨J1.go i Fi H lei reli.fH hlt, fun H' => ∃ (ρ2 : Env) (F2 : Hp) (acc2 : List (Key × V)) (dn2 : List D), FLe F1 F2 ∧ Rel G.K io (upd Rv Dl (.dK acc2)) ρ2 F2 (wipe σ vs) H' ∧ acc2.length ≤ i + 1 ∧ Rps G.K F2 (acc2.map (·.2)) dn2 ∧
              dcompGo vs g t sk s (ds.drop (i + 1)) (acc2.map (·.1), dn2) ρ2 = .ok zs ρe, fun H' z => ⟨ds.length - (i + 1), by omega, rfl, hlt, z⟩, fun xv H' y => ?_⟩
          obtain ⟨F2, nw, rp⟩ := J1.yld i Fi H H' xv d lei reli.fH hd y
          have rel2 := reli.after nw
          refine ⟨d, ρi, F2, _, io, rel2, rp, ?_⟩
          cases e3 : g d ρi with
          | stuck => rw [e3] at hgo; cases hgo
          | exc x ρ' => rw [e3] at hgo; cases hgo
          | ok u ρ3 =>
            rw [e3, R.bind_ok] at hgo
            intro σ3 H3 F3 le3 rel3 hj3
            have hjs' : ∀ j, j ∉ vs → σ3[j]? = (wipe σ vs)[j]? := fun j hj => hj3.2 j fun z => hj (by
              have w := List.all_eq_true.mp hjs j z
              simpa using w)
            have hl3 : σ3.length = σ.length := hj3.1.trans (wipe_length σ vs)
            have hw := wipe_same hl3 hjs'
            refine ⟨hw, ρ3, F3, _, io, rel3, ?_⟩
            cases e4 : t ρ3 with
            | stuck => rw [e4] at hgo; cases hgo
            | exc x ρ' => rw [e4] at hgo; cases hgo
            | ok k ρ4 =>
              rw [e4, R.bind_ok] at hgo
              intro H4 F4 le4 rel4
              cases k with
              | false =>
                refine iteF ?_
                have hgo : (if plainAt ρ4 vs = true then dcompGo vs g t sk s (ds.drop (i + 1)) (acc.map (·.1), dn) (wipeE ρ4 vs) else .stuck) = R.ok zs ρe := hgo
                by_cases hp4 : plainAt ρ4 vs = true
                · rw [if_pos hp4] at hgo
                  have le := (nw.f.trans le3).trans le4
                  refine ⟨wipeE ρ4 vs, F4, acc, dn, lei.trans le, ?_, Nat.le_succ_of_le hacc, racc.mono le, hgo⟩
                  have r := rel4.wiped hp4
                  rw [hw] at r
                  exact r
                · rw [if_neg hp4] at hgo; cases hgo
              | true =>
                refine iteT ⟨ρ4, F4, _, io, rel4, ?_⟩
                have hgo : ((sk ρ4).bind fun kd ρk => (s ρk).bind fun z ρ3 => match keyOf kd with | none => .stuck | some k => if plainAt ρ3 vs = true then dcompGo vs g t sk s (ds.drop (i + 1)) (dPut (acc.map (·.1)) dn k z) (wipeE ρ3 vs) else .stuck) = R.ok zs ρe := hgo
                cases ek : sk ρ4 with
                | stuck => rw [ek] at hgo; cases hgo
                | exc x ρ' => rw [ek] at hgo; cases hgo
                | ok kd ρk =>
                rw [ek, R.bind_ok] at hgo
                intro kv Hk Fk lek relk rpk
                refine ⟨ρk, Fk, _, io, relk, ?_⟩
                cases e5 : s ρk with
                | stuck => rw [e5] at hgo; cases hgo
                | exc x ρ' => rw [e5] at hgo; cases hgo
                | ok z ρ5 =>
                  rw [e5, R.bind_ok] at hgo
                  intro yv H5 F5 le5 rel5 rp5
                  cases e6 : keyOf kd with
                  | none => rw [e6] at hgo; cases hgo
                  | some k =>
                    rw [e6] at hgo
                    have hgo : (if plainAt ρ5 vs = true then dcompGo vs g t sk s (ds.drop (i + 1)) (dPut (acc.map (·.1)) dn k z) (wipeE ρ5 vs) else .stuck) = R.ok zs ρe := hgo
                    by_cases hp5 : plainAt ρ5 vs = true
                    · rw [if_pos hp5] at hgo
                      have le := (((nw.f.trans le3).trans le4).trans lek).trans le5
                      obtain ⟨k1, k2⟩ := dPut_put (k := k) rp5 (racc.mono le)
                      refine ⟨acc, k, keyOf_vw (H := Fk) (.inl rpk) e6, rel5.rH Dl _ upd_same, Nat.lt_of_le_of_lt hacc (Nat.lt_of_lt_of_le hlt hz), wipeE ρ5 vs, F5, putK acc k yv, (dPut (acc.map (·.1)) dn k z).2, lei.trans le, ?_, Nat.le_trans (length_putK acc k yv) (Nat.succ_le_succ hacc), k2, by rw [k1]; exact hgo⟩
                      have r := rel5.wiped hp5
                      rw [hw] at r
                      exact r.resPut
                    · rw [if_neg hp5] at hgo; cases hgo
        · have hi2 : i = ds.length := by omega
          subst hi2
          rw [List.drop_eq_nil_of_le (Nat.le_refl _)] at hgo
          unfold dcompGo at hgo
          cases hgo
          refine .inl ⟨J1.stop Fi H lei reli.fH, ?_⟩
          obtain ⟨relD, n1, n2, lo⟩ := reli.resDrop nR
          have relB := rel1.back (vs := vs) relD lei hpl
          refine q Dl H Fi (le1.trans lei) relB ⟨n1, nR, _, n2, acc, rfl, rfl, ?_⟩ fun i c d e1 e2 e3 => ?_
          · exact racc
          · have hlen : ρ1.length = ρe.length := by rw [rel1.len, relD.len, wipe_length]
            rw [(backE_get hlen vs).2] at e1
            by_cases hi : i ∈ vs
            · rw [if_pos hi] at e1
              rcases plain_at hpl hi e1 with z | ⟨_, z⟩ <;> (subst z; cases e2)
            · rw [if_neg hi] at e1
              exact lo i c d e1 e2 (by rw [wipe_get, if_neg hi]; exact e3)
theorem d_dcompF {kx vx iter : Expr} {ifs : List Expr} {scope : Scope} {own : List (Str × Nat)} {it : SA} {g : SG} {t : ST} {sk s : SE} {js : List Nat} (hu : At X W) (hi : DI (GK X ex) X W tg iter it) (ok : BlkOk X.N X.env.scope scope own)
    (hg : ∀ (s : Shared) (H : Hp) (C : Addr) (cl : List (Str × Addr)) (fp : List Addr), DG (GK X ex) (X.blk s H scope (compEnvC scope cl C X.env) fp) W0 js tg g)
    (ht : ∀ (s : Shared) (H : Hp) (C : Addr) (cl : List (Str × Addr)) (fp : List Addr), PTs (X.blk s H scope (compEnvC scope cl C X.env) fp) ifs (tT (GK X ex) W0 t))
    (hk : ∀ (s' : Shared) (H : Hp) (C : Addr) (cl : List (Str × Addr)) (fp : List Addr), DE (GK X ex) (X.blk s' H scope (compEnvC scope cl C X.env) fp) W0 kx sk)
    (he : ∀ (s' : Shared) (H : Hp) (C : Addr) (cl : List (Str × Addr)) (fp : List Addr), DE (GK X ex) (X.blk s' H scope (compEnvC scope cl C X.env) fp) W0 vx s) (hjs : js.all (fun j => (own.map (·.2)).contains j) = true) (hs : ∀ x, foldedSetIterable iter X.env x = pure x := by intro _; rfl) :
    DF (GK X ex) X W (.DictComp kx vx [⟨tg, iter, ifs, 0⟩] scope pos) (sDComp (own.map (·.2)) it g t sk s) :=
  wkE (pe_dc hu.calm hu.nd hi ok hg ht hk he hs) fun σ H Q h => dcomp_core hjs h
end
end Dt

set_option Elab.async false
set_option linter.all false
set_option maxRecDepth 100000
set_option maxHeartbeats 4000000
/-! tuple(d.items()). -/
namespace Dt
open PySem PySem.Spec PyProof.Rows L2
section
variable {prog : Program} {w : World} {K : Type} [DecidableEq K] {knd : KeyKind prog w K} {A : Around} {E : Value → Shared → Prop} {s : Shared} {r d : Addr} {kvs : List (K × Value)} {ep : Nat}
abbrev tupOf (as : List Addr) : Obj := { cls := .type "tuple", data := .seq (as.map Value.ref).toArray }
theorem new_tuple_items {Q : Value → Shared → Prop} (hh : A.handled = none) (view : s.heap.IsItemsView r d) (at_ : s.heap.DictAt knd d kvs ep) (room : kvs.length ≤ sizeLine)
    (fin : ∀ (h1 : Heap) (tk : Nat) (as : List Addr), (∀ b o, s.heap.get? b = some o → h1.get? b = some o) → as.length = kvs.length → PySem.W.KdxG knd kvs s.heap.objs.size h1 as → Q (.ref h1.objs.size) { s with heap := h1.push (tupOf as), toks := tk }) :
    codeAny (model prog w) A (.call (.builtin "tuple.__new__") ⟨[.type "tuple", .ref r], []⟩) (wants Q E) s := by
  refine codeAny_of_tree (show wpAny _ A.in1 (do checkBuiltinCall "tuple.__new__" ⟨[.type "tuple", .ref r], []⟩; again (.builtin "tuple.__new__" ⟨[.type "tuple", .ref r], []⟩)) _ _ s from wpAny_bind (wpAny_of_eq (F.newCall_tuple_1 _) (wpAny_pure ⟨plainId_quiet F.plain_tuple_new _, codeAny_builtin F.entry_tuple_new ?_⟩)))
  rw [Around.under_plainId F.plain_tuple_new]
  have k1 := sub_tuple_self; have k2 := init_tuple_lookup; have k3 := madeHere_tuple
  have ty : s.TypeIs (.ref r) "dict_items" := view.typeIs
  have q1 : A.in1.handled = none := hh
  wp_walk using wpAny_typeOf ty, PySem.W.kdx_collect (A := A.in1) q1 view at_ room
  intro h1 tk as old len g
  refine (show wpAny _ _ (Builtin.Tuple.tupleExact (as.map Value.ref).toArray >>= fun v => ret v) _ _ _ from ?_)
  unfold Builtin.Tuple.tupleExact
  exact wpAny_bind (wpAny_newObj_type (wpAny_pure (fin h1 tk as old len g)) (by show (as.map Value.ref).toArray.size ≤ sizeLine; rw [List.size_toArray, List.length_map, len]; exact room))
theorem call_tuple_items {Q : Value → Shared → Prop} (hh : A.handled = none) (view : s.heap.IsItemsView r d) (at_ : s.heap.DictAt knd d kvs ep) (room : kvs.length ≤ sizeLine)
    (fin : ∀ (h1 : Heap) (tk : Nat) (as : List Addr), (∀ b o, s.heap.get? b = some o → h1.get? b = some o) → as.length = kvs.length → PySem.W.KdxG knd kvs s.heap.objs.size h1 as → Q (.ref h1.objs.size) { s with heap := h1.push (tupOf as), toks := tk }) :
    wpAny (model prog w) A (call (.type "tuple") [.ref r]) Q E s :=
  callType_codes (Q₁ := fun v t => t.TypeIs v "tuple" ∧ Q v t) F.called_tuple (F.typeCall_tuple_1 _) F.entry_object_init
    (new_tuple_items (A := A.in1) hh view at_ room fun h1 tk as old len g => ⟨⟨_, Heap.get?_push_size _ rfl, rfl⟩, fin h1 tk as old len g⟩) fun v t h => ⟨h.1, F.args_object_init_2 v _, object_init_meets F.called_tuple.init.lookup F.called_tuple.made (by decide) prog w A.in1 _ t ⟨h.1, rfl, h.2⟩⟩
end
section
variable {X : Cx} {pins : List (Addr × Obj)} {σ : L2.St} {H : Hp} {s : Shared}
/-- the objects of the heap h1 at the addresses, as pairs -/
def putZ (h1 : Heap) : Hp → List Addr → List (Key × V) → Hp
  | H, a :: as, p :: kvs => putZ h1 (upd H a (.frz ((h1.get? a).getD (tupO [])) (.tup [kV p.1, p.2]))) as kvs
  | H, _, _ => H
theorem putZ_off {h1 : Heap} {b : Addr} : ∀ (as : List Addr) (kvs : List (Key × V)) (H : Hp), b ∉ as → putZ h1 H as kvs b = H b
  | [], _, _, _ => rfl
  | _ :: _, [], _, _ => rfl
  | a :: as, p :: kvs, H, h => by
    unfold putZ
    rw [putZ_off as kvs _ (fun z => h (.tail _ z)), upd_ne (fun z => h (by rw [z]; exact .head _))]
theorem putZ_at {h1 : Heap} : ∀ (as : List Addr) (kvs : List (Key × V)) (H : Hp), as.length = kvs.length → as.Nodup → Paired (fun (t : Addr) (p : Key × V) => putZ h1 H as kvs t = some (.frz ((h1.get? t).getD (tupO [])) (.tup [kV p.1, p.2]))) as kvs
  | [], [], _, _, _ => .nil
  | [], _ :: _, _, h, _ => by cases h
  | _ :: _, [], _, h, _ => by cases h
  | a :: as, p :: kvs, H, h, hn => by
    obtain ⟨n1, n2⟩ := List.nodup_cons.mp hn
    exact .cons (by unfold putZ; rw [putZ_off as kvs _ n1, upd_same]) (putZ_at as kvs _ (Nat.succ.inj h) n2)
theorem pairs_laid {h1 : Heap} {tk : Nat} {kvs : List (Key × V)} {vs : List (Key × Value)} {as : List Addr} (I : Inv X pins σ H s) (kv : KV kvs vs) (old : ∀ b o, s.heap.get? b = some o → h1.get? b = some o) (len : as.length = vs.length)
    (g : PySem.W.KdxG (mixKind X.prog X.w) vs s.heap.objs.size h1 as) : ∃ H' : Hp, (∀ b o, H b = some o → H' b = some o) ∧ (∀ t ∈ as, H t = none) ∧ Paired (fun (t : Addr) (q : Key × V) => TupC H' t [kV q.1, q.2]) as kvs ∧ Inv X pins σ H' { s with heap := h1, toks := tk } := by
  have unlike : as.Nodup := g.rise.imp fun {a b} lt => Nat.ne_of_lt lt
  have free : ∀ t ∈ as, H t = none := fun t ht => I.hok.fresh (Nat.le_of_lt (g.above t ht))
  have here := putZ_at (h1 := h1) as kvs H (by rw [len, Paired.length kv]) unlike
  have off := fun b (q : b ∉ as) => putZ_off (h1 := h1) (b := b) as kvs H q
  have keep : ∀ b u, H b = some u → putZ h1 H as kvs b = some u := fun b u e => by rw [off b fun q => by rw [free b q] at e; cases e]; exact e
  have bare : ∀ t ∈ as, ((h1.get? t).getD (tupO [])).dict = none := fun t ht => by
    obtain ⟨j, hj⟩ := List.mem_iff_getElem?.mp ht
    obtain ⟨_, _, _, _, _, e⟩ := g.pairs j t hj
    rw [e]; rfl
  have tups : ∀ {us : List Addr} {ws : List (Key × V)}, (∀ u ∈ us, u ∈ as) → Paired (fun (t : Addr) (p : Key × V) => putZ h1 H as kvs t = some (.frz ((h1.get? t).getD (tupO [])) (.tup [kV p.1, p.2]))) us ws → Paired (fun (t : Addr) (q : Key × V) => TupC (putZ h1 H as kvs) t [kV q.1, q.2]) us ws := fun {us ws} m h => by
    induction h with
    | nil => exact .nil
    | cons e t ih => exact .cons ⟨_, bare _ (m _ (.head _)), e⟩ (ih fun u hu => m u (.tail _ hu))
  refine ⟨putZ h1 H as kvs, keep, free, tups (fun _ h => h) here, I.call' (ch := []) rfl ⟨fun b o q _ _ _ => old b o q, fun b o q _ _ _ => ⟨o.slots, old b o q⟩, fun b o q n _ => ?_, fun b o q _ => ⟨o, old b o q⟩, fun b xs q => keep b _ q, fun b o u q => keep b _ q, fun b ps q => ⟨#[], by rw [keep b _ q]; simp⟩⟩ (fun b u q => ?_) I.bare fun b z => by simp at z⟩
  · rw [off b fun z => absurd (Heap.lt_size q) (Nat.not_lt.mpr (Nat.le_of_lt (g.above b z)))]
    exact n
  · by_cases hb : b ∈ as
    · obtain ⟨j, pk, e1, e2, e3⟩ := LiI.paired_ix here hb
      obtain ⟨key, k, x, f1, f2, f3⟩ := g.pairs j b e1
      obtain rfl : HO.frz ((h1.get? b).getD (tupO [])) (.tup [kV pk.1, pk.2]) = u := Option.some.inj (e3.symm.trans q)
      obtain ⟨⟨k', x'⟩, g1, g2, g3⟩ := LiI.paired_get kv e2
      obtain ⟨rfl, rfl⟩ : k = k' ∧ x = x' := Prod.mk.inj (Option.some.inj (f1.symm.trans g1))
      exact ⟨by show h1.get? b = some ((h1.get? b).getD (tupO [])); rw [f3]; rfl, by show 2 ≤ sizeLine; decide, [key, x], .cons (by rw [g2]; exact relV_key (show keyIs k key = true from f2)) (.cons g3 .nil), ⟨_, f3, rfl, _, rfl⟩⟩
    · rw [off b hb] at q
      exact (I.hok b u q).stay (fun d v _ y => old d v y) (fun d y => keep d _ y) fun d xs y => keep d _ y
def rItemsT : V → Hp → VK → Prop := fun x H Q => ∃ (d : Addr) (kvs : List (Key × V)), x = .ref d ∧ Rd H d (.dK kvs) ∧
  ∀ (H1 : Hp) (p : Addr) (o : Obj) (ts : List Addr), (∀ b o, H b = some o → H1 b = some o) → (∀ t ∈ ts, H t = none) → Paired (fun (t : Addr) (q : Key × V) => TupC H1 t [kV q.1, q.2]) ts kvs → H1 p = none → o.dict = none → Q (.ref p) (upd H1 p (.frz o (.tup (ts.map V.ref))))
def tTupItems (te : TE) : TE := fun σ H Q => te σ H fun x H1 => rItemsT x H1 Q
theorem pe_tupItems {e : Expr} {te : TE} {p apos cpos pos : Pos} (calm : X.calm = true) (he : PE X e te) (g1 : Gl X "tuple") (m1 : X.mg "tuple" = none) (base : attributeBase e "items" X.env (eval e X.env) = eval e X.env := by rfl) (line : (apos.endLine == cpos.line) = true := by rfl)
    (hs : starEach [.Call (.Attribute e "items" apos) [] [] cpos] X.env = (false, eval (.Call (.Attribute e "items" apos) [] [] cpos) X.env) :: starEach [] X.env := by rfl) :
    PE X (.Call (.Name "tuple" p) [.Call (.Attribute e "items" apos) [] [] cpos] [] pos) (tTupItems te) := by
  constructor; intro pins s σ H Q I hq
  refine wpAny_Call_Name_kw (ld_blt I g1 m1 boot_tuple (callWith_type1 ?_ hs rfl)); rw [hs]
  refine (show wpAny _ _ (spliced ((false, eval (.Call (.Attribute e "items" apos) [] [] cpos) X.env) :: backTo pos (starEach [] X.env))) _ _ s from Calls.spliced_cons ?_)
  refine wpAny_Call_method (T := "dict") (id := "dict.items") base rfl line F.plainAttrs_dict F.slot_dict_items F.type_dict_items (thn (he.run pins s σ H _ I hq) fun u t ⟨x, H1, I1, rx, d, kvs, ex, hd, q⟩ => ?_)
  subst ex; obtain rfl : u = Value.ref d := rx
  obtain ⟨sz, h0, vs, kv, dd⟩ := hd.ok I1.hok
  obtain ⟨ep, at_⟩ := dd.dictAt
  have lk : kvs.length = vs.length := Paired.length kv
  have I2 : Inv X pins σ H1 { t with heap := t.heap.push { cls := .type "dict_items", data := .fields #[.ref d] } } := I1.kept (t' := t.toks) fun b ob q => Heap.get?_push_of_some _ q
  refine ⟨dd.typeIs, dd.mapOf.noDict, (show wpAny _ _ (callWith cpos (.builtin "dict.items") [.ref d] [] []) _ X.xe t from ?_)⟩
  refine method_meetsIn F.slot_dict_items F.entry_dict_items rfl (PySem.evalArgs_none ⟨rfl, dd.typeIs, F.args_dict_items_1 _, _, meets_dict_items (mixKind X.prog X.w) d h0, ⟨vs, dd⟩, Calls.spliced_nil ?_⟩)
  refine call_tuple_items (knd := mixKind X.prog X.w) (kvs := vs) (ep := ep) (I1.ok.hd calm) ⟨_, Heap.get?_push_size _ rfl, rfl, rfl⟩ (at_.push _) (by omega) fun h1 tk as old len g => ?_
  obtain ⟨H2, k1, k2, k3, J⟩ := pairs_laid (tk := tk) I2 kv old len g
  exact ⟨.ref h1.objs.size, _, J.laid (t' := tk) (o := .frz (tupOf as) (.tup (as.map V.ref))) (fun b o e => Heap.get?_push_of_some _ e) (Nat.le_refl _) (frz_ok (by rw [List.length_map]; omega) (LiI.vals_refs as)), rfl, q H2 _ _ as k1 k2 k3 (J.hok.fresh (Nat.le_refl _)) rfl⟩
end
def pairsD (ks : List Key) (ds : List D) : List D := List.zipWith (fun k d => .tup [keyD k, d]) ks ds
def gTupItems : List D → Option D
  | [.dct ks ds] => some (.tup (pairsD ks ds))
  | _ => none
section
variable {K : PySem.W.Frag} {F H : Hp}
theorem rps_pairs {F' : Hp} (le : FLe F F') : ∀ {ts : List Addr} {kvs : List (Key × V)} {ds : List D}, Paired (fun (t : Addr) (q : Key × V) => TupC F' t [kV q.1, q.2]) ts kvs → Rps K F (kvs.map (·.2)) ds → Rps K F' (ts.map V.ref) (pairsD (kvs.map (·.1)) ds)
  | _, _, _, .nil, .nil => .nil
  | _, _, _, .cons h t, .cons r rs => .cons (.tup h (.cons (rp_key _) (.cons (r.mono le) .nil))) (rps_pairs le t rs)
def newF (F H1 : Hp) (p : Addr) (o : Obj) (ts : List Addr) : Hp := fun b => if b = p then some (.frz o (.tup (ts.map V.ref))) else if b ∈ ts then H1 b else F b
theorem newF_p {H1 : Hp} {p : Addr} {o : Obj} {ts : List Addr} : newF F H1 p o ts p = some (.frz o (.tup (ts.map V.ref))) := if_pos rfl
theorem newF_t {H1 : Hp} {p b : Addr} {o : Obj} {ts : List Addr} (n : b ≠ p) (m : b ∈ ts) : newF F H1 p o ts b = H1 b := by unfold newF; rw [if_neg n, if_pos m]
theorem newF_o {H1 : Hp} {p b : Addr} {o : Obj} {ts : List Addr} (n : b ≠ p) (m : b ∉ ts) : newF F H1 p o ts b = F b := by unfold newF; rw [if_neg n, if_neg m]
theorem paired_on {α β : Type} {P Q : α → β → Prop} : ∀ {us : List α} {ws : List β}, (∀ u ∈ us, ∀ w, P u w → Q u w) → Paired P us ws → Paired Q us ws
  | _, _, _, .nil => .nil
  | _, _, h, .cons e t => .cons (h _ (.head _) _ e) (paired_on (fun u m => h u (.tail _ m)) t)
theorem items_new (fh : FLe F H) {kvs : List (Key × V)} {ds : List D} (r : Rps K F (kvs.map (·.2)) ds) {H1 : Hp} {p : Addr} {ts : List Addr} (keep : ∀ b o, H b = some o → H1 b = some o) (free : ∀ t ∈ ts, H t = none)
    (at_ : Paired (fun (t : Addr) (q : Key × V) => TupC H1 t [kV q.1, q.2]) ts kvs) (np : H1 p = none) {o : Obj} (ho : o.dict = none) :
    ∃ F', New F H F' (upd H1 p (.frz o (.tup (ts.map V.ref)))) ∧ Rp K F' (.ref p) (.tup (pairsD (kvs.map (·.1)) ds)) := by
  have hp : H p = none := by
    cases e : H p with
    | none => rfl
    | some o => rw [keep p o e] at np; cases np
  have nt : p ∉ ts := fun q => by
    obtain ⟨j, y, _, _, _, _, e⟩ := LiI.paired_ix at_ q
    rw [np] at e; cases e
  have le : FLe F (newF F H1 p o ts) := fun a o e => by
    have h := fh a o e
    rw [newF_o (fun q => by rw [q, hp] at h; cases h) (fun q => by rw [free a q] at h; cases h)]
    exact e
  refine ⟨newF F H1 p o ts, ⟨le, fun a o e => ?_, fun a o e => ?_, fun a o e => ?_, fun h a ps z => ?_⟩, .tup ⟨o, ho, newF_p⟩ (rps_pairs le (paired_on (fun u m w e => ?_) at_) r)⟩
  · rw [upd_ne (fun q => by rw [q, hp] at e; cases e)]
    exact keep a o e
  · by_cases n1 : a = p
    · rw [n1, newF_p] at e; rw [n1, upd_same]; exact e
    · rw [upd_ne n1]
      by_cases n2 : a ∈ ts
      · rw [newF_t n1 n2] at e; exact e
      · rw [newF_o n1 n2] at e; exact keep a o (fh a o e)
  · by_cases n1 : a = p
    · exact .inr (by rw [n1]; exact hp)
    · by_cases n2 : a ∈ ts
      · exact .inr (free a n2)
      · rw [newF_o n1 n2] at e; exact .inl e
  · by_cases n1 : a = p
    · rw [n1, newF_p] at z; cases z
    · by_cases n2 : a ∈ ts
      · obtain ⟨j, y, _, _, _, _, e⟩ := LiI.paired_ix at_ n2
        rw [newF_t n1 n2, e] at z; cases z
      · rw [newF_o n1 n2] at z; exact h a ps z
  · obtain ⟨ob, h1, h2⟩ := e
    exact ⟨ob, h1, by rw [newF_t (fun q : u = p => nt (by rw [← q]; exact m)) m]; exact h2⟩
end
section
variable {G : Gx} {ex : Exx} {X : Cx} {W : WX} {p apos cpos pos : Pos}
theorem psem_tupItems : PSem G (r1L rItemsT) gTupItems := fun F H vs ds d Q fh vw e q => by
  unfold gTupItems at e
  split at e
  · cases e
    cases vw with
    | cons h t =>
      cases t
      obtain ⟨a, kvs, rfl, rd, rfl, r⟩ := h.dct fh
      refine ⟨_, rfl, a, kvs, rfl, rd, fun H1 p o ts keep free at_ np ho => ?_⟩
      obtain ⟨F', nw, rp⟩ := items_new fh r keep free at_ np ho
      exact q _ _ F' nw rp
  · cases e
theorem d_tupItems {e : Expr} {se : SO} (calm : X.calm = true) (g1 : Gl X "tuple") (m1 : X.mg "tuple" = none) (he : DO (GK X ex) X W e se) (base : attributeBase e "items" X.env (eval e X.env) = eval e X.env := by rfl) (line : (apos.endLine == cpos.line) = true := by rfl)
    (hs : starEach [.Call (.Attribute e "items" apos) [] [] cpos] X.env = (false, eval (.Call (.Attribute e "items" apos) [] [] cpos) X.env) :: starEach [] X.env := by rfl) :
    DE (GK X ex) X W (.Call (.Name "tuple" p) [.Call (.Attribute e "items" apos) [] [] cpos] [] pos) (sOps gTupItems (b1 se)) :=
  wkE (pe_tupItems calm he g1 m1 base line hs) fun σ H Q h => one_ops (r := rItemsT) psem_tupItems h
end
end Dt

set_option Elab.async false
set_option linter.all false
set_option maxRecDepth 100000
set_option maxHeartbeats 4000000
/-! t[::-1], t a tuple or a list. -/
namespace Dt
open PySem PySem.Spec PyProof.Rows L2
section
variable {prog : Program} {w : World} {A : Around} {E : Value → Shared → Prop} {s : Shared}
theorem back_places (n : Nat) : Builtin.Slice.sliceAdjust none none (-1) (n : Int) = ((n : Int) - 1, -1) ∧ Builtin.Slice.slicePlaces ((n : Int) - 1) (-1) (-1) = n := by
  refine ⟨by unfold Builtin.Slice.sliceAdjust; simp, ?_⟩
  unfold Builtin.Slice.slicePlaces
  have h1 : ¬ (-1 : Int) > 0 := by omega
  simp only [h1, if_false, Int.neg_neg, Int.ediv_one]
  split <;> omega
theorem back_pick (xs : Array Value) : (List.range xs.size).filterMap (fun (k : Nat) => xs[(((xs.size : Int) - 1) + (k : Int) * -1).toNat]?) = xs.toList.reverse := by
  have e : (fun (k : Nat) => xs[(((xs.size : Int) - 1) + (k : Int) * -1).toNat]?) = (fun j => xs[j]?) ∘ fun k => xs.size - 1 - k := funext fun k => by
    show _ = xs[xs.size - 1 - k]?
    rw [show (((xs.size : Int) - 1) + (k : Int) * -1).toNat = xs.size - 1 - k by omega]
  rw [e, ← List.filterMap_map, PySem.W.krv_range, List.filterMap_reverse, PySem.W.krv_all]
theorem applied_back {sl : Addr} {vl vu vs : Value} {n : Nat} {Q : Int × Int × Nat → Shared → Prop} (hs : s.heap.IsSliceOf sl vl vu vs) (pl : IsPart vl none) (pu : IsPart vu none) (ps : IsPart vs (some (-1))) (h : Q ((n : Int) - 1, -1, n) s) :
    wpAny (model prog w) A (Builtin.Slice.sliceApplied (.ref sl) (pure (n : Int))) Q E s := by
  obtain ⟨o, at_, c, d⟩ := id hs
  unfold Builtin.Slice.sliceApplied Builtin.Slice.sliceFields
  refine wpAny_bind (wpAny_bind (wpAny_field at_ d (x := vl) rfl (wpAny_bind (wpAny_field at_ d (x := vu) rfl (wpAny_bind (wpAny_field at_ d (x := vs) rfl (wpAny_pure (wpAny_bind (HT.slicePart_ ps ?_)))))))))
  refine (show wpAny _ _ (if ((-1 : Int) == 0) = true then _ else _) _ _ s from ?_)
  rw [if_neg (by decide)]
  refine wpAny_bind (HT.slicePart_ pl (wpAny_bind (HT.slicePart_ pu (wpAny_bind (wpAny_pure (show wpAny _ _ (match Builtin.Slice.sliceAdjust none none (-1) (n : Int) with | (lo, hi) => pure (lo, (-1 : Int), Builtin.Slice.slicePlaces lo hi (-1))) _ _ s from ?_))))))
  rw [(back_places n).1]
  refine (show wpAny _ _ (pure ((n : Int) - 1, (-1 : Int), Builtin.Slice.slicePlaces ((n : Int) - 1) (-1) (-1))) _ _ s from ?_)
  rw [(back_places n).2]
  exact wpAny_pure h
theorem getItem_tuple_back {t sl : Addr} {items : Array Value} {vl vu vs : Value} {Q : Value → Shared → Prop} (ht : IsTup s.heap t items) (hs : s.heap.IsSliceOf sl vl vu vs) (pl : IsPart vl none) (pu : IsPart vu none) (ps : IsPart vs (some (-1)))
    (h : Q (.ref s.heap.objs.size) { s with heap := s.heap.push { cls := .type "tuple", data := .seq items.toList.reverse.toArray } }) (room : items.size ≤ sizeLine) : wpAny (model prog w) A (getItem (.ref t) (.ref sl)) Q E s := by
  have fits : sizeOk (.seq items.toList.reverse.toArray) := by show items.toList.reverse.toArray.size ≤ sizeLine; simpa using room
  obtain ⟨o, at_, c, d⟩ := id hs
  have ty : s.TypeIs (.ref sl) "slice" := ⟨o, at_, c⟩
  unfold getItem
  try (with_reducible refine wpAny_holding ?_); try refine wpAny_bind (wpAny_pure ?_)
  refine wpAny_bind (wpAny_sequenceKey ht.typeIs (by decide) (wpAny_bind (wpAny_callSpecial?_slot (name := Str.ofString "__getitem__") ht.typeIs PyProof.Rows.slot_tuple_getitem (wpAny_call_entry PyProof.Rows.slot_tuple_getitem ht.typeIs entry_tuple_getitem ?_ (args_tuple_getitem _ _)))))
  refine (show wpAny _ _ (Builtin.Tuple.tupleItemsOf (.ref t) >>= _) _ _ s from wpAny_bind (tupleItemsOf_ ht (wpAny_bind (wpAny_typeOf ty ?_))))
  rw [if_pos (by decide)]
  refine wpAny_bind (applied_back hs pl pu ps ?_)
  refine (show wpAny _ _ (if (((items.size : Int) - 1) == 0 && (-1 : Int) == 1 && items.size == items.size) = true then _ else _) _ _ s from ?_)
  rw [if_neg (by simp), back_pick]
  first
    | exact wpAny_bind (m := Builtin.Tuple.tupleExact _) (wpAny_newObj_type (wpAny_pure ⟨_, rfl, wpAny_pure h⟩) fits)
    | exact wpAny_bind (m := Builtin.Tuple.tupleExact _) (wpAny_newObj_type (wpAny_bind (wpAny_pure (wpAny_pure ⟨_, rfl, wpAny_pure h⟩))) fits)
    | exact wpAny_bind (wpAny_bind (m := Builtin.Tuple.tupleExact _) (wpAny_newObj_type (wpAny_pure (wpAny_pure ⟨_, rfl, wpAny_pure h⟩)) fits))
    | exact wpAny_bind (wpAny_bind (m := Builtin.Tuple.tupleExact _) (wpAny_newObj_type (wpAny_pure ⟨_, rfl, wpAny_pure h⟩) fits))
end
section
variable {X : Cx} {W : WX} {ex : Exx} {a : Expr} {pos : Pos} {sa : SO}
def tRevT (K : PySem.W.Frag) (te : TE) : TE := fun σ H Q => te σ H fun x H1 => ∃ (a : Addr) (xs : List V), x = V.ref a ∧ SqT K H1 a xs ∧ NewT H1 xs.reverse Q
theorem pe_revT {e : Expr} {te : TE} {k : Nat} {p1 p2 p3 : Pos} (he : PE X e te) : PE X (.Subscript e (.Slice none none (some (.UnaryOp .USub (.Constant (.int 1) k p1) p2)) p3) pos) (tRevT X.K te) := by
  constructor; intro pins s σ H Q I h
  refine Subscript_ (thn (he.run pins s σ H _ I h) fun v t ⟨x, H1, I1, r1, l, xs, ex, hx, q⟩ => ?_)
  subst ex; cases r1
  have step : PO X (some (.UnaryOp .USub (.Constant (.int 1) k p1) p2)) (tPart (tUn (rU fun i => .int (-i)) (tC (.int 1)))) := po_some (pe_un un_neg pe_int)
  refine wpAny_Slice (thn (po_none.run pins t σ H1 (fun o H2 => o = none ∧ H2 = H1) I1 ⟨rfl, rfl⟩) fun vl t2 ⟨lo, H2, I2, pl, e1, e2⟩ => ?_)
  subst e1 e2
  refine thn (po_none.run pins t2 σ H2 (fun o H3 => o = none ∧ H3 = H2) I2 ⟨rfl, rfl⟩) fun vu t3 ⟨hi, H3, I3, pu, e3, e4⟩ => ?_
  subst e3 e4
  refine thn (step.run pins t3 σ H3 (fun o H4 => o = some (-1) ∧ H4 = H3) I3 ⟨1, rfl, -1, rfl, rfl, rfl⟩) fun vs t4 ⟨st, H4, I4, ps, e5, e6⟩ => ?_
  subst e5 e6
  have I5 : Inv X pins σ H4 { t4 with heap := t4.heap.push { cls := .type "slice", data := .fields #[vl, vu, vs] } } := I4.kept (t' := t4.toks) fun b ob q => Heap.get?_push_of_some _ q
  obtain ⟨its, r, ht, hz⟩ := I5.tuple hx
  have hlen := r.length
  refine (show wpAny (model X.prog X.w) X.A (subscriptTail e (.Slice none none (some (.UnaryOp .USub (.Constant (.int 1) k p1) p2)) p3) (.ref l) (.ref t4.heap.objs.size)) (EP X pins σ Q) X.xe { t4 with heap := t4.heap.push { cls := .type "slice", data := .fields #[vl, vu, vs] } } from
    tail_any (ops := [.ref l, .ref t4.heap.objs.size]) ht.typeIs (PyProof.Rows.slot_tuple_getitem.lookup) (getItem_tuple_back ht (Heap.IsSliceOf.new _ vl vu vs) pl pu ps ?_ (by rw [List.size_toArray]; omega)) (by with_unfolding_all rfl))
  exact made I5 r.reverse (by rw [List.length_reverse]; exact hz) q
theorem pe_either {e : Expr} {t u : TE} (h : PE X e t) (k : PE X e u) : PE X e (fun σ H Q => t σ H Q ∨ u σ H Q) := ⟨fun pins s σ H Q I q => q.elim (h.run pins s σ H Q I) (k.run pins s σ H Q I)⟩
/-- s[::-1] as a value, s a tuple or a list -/
def sRevE (s : SO) : SE := fun ρ => (s ρ).bind fun o ρ' => match o.get ρ' with
  | some (.lst xs) => .ok (.lst xs.reverse) ρ'
  | some (.tup xs) => .ok (.tup xs.reverse) ρ'
  | _ => .stuck
@[simp] theorem ev_revE (s : SO) (ρ : Env) : sRevE s ρ = (s ρ).bind fun o ρ' => match o.get ρ' with | some (.lst xs) => .ok (.lst xs.reverse) ρ' | some (.tup xs) => .ok (.tup xs.reverse) ρ' | _ => .stuck := rfl
theorem d_revE {k : Nat} {p1 p2 p3 : Pos} (ha : DO (GK X ex) X W a sa) : DE (GK X ex) X W (.Subscript a (.Slice none none (some (.UnaryOp .USub (.Constant (.int 1) k p1) p2)) p3) pos) (sRevE sa) :=
  wkE (pe_either (pe_revL ha) (pe_revT ha)) fun σ H Q ⟨ρ, F, Rv, io, rel, q⟩ => by
    unfold sRevE at q
    cases e : sa ρ with
    | stuck => rw [e] at q; exact q.elim
    | exc x ρ' => rw [e] at q; exact .inl ⟨ρ, F, Rv, io, rel, by rw [e]; exact q⟩
    | ok o ρ1 =>
      rw [e, R.bind_ok] at q
      cases e4 : o.get ρ1 with
      | none => rw [e4] at q; exact q.elim
      | some d =>
        rw [e4] at q
        cases d with
        | lst xs =>
          refine .inl ⟨ρ, F, Rv, io, rel, by
            rw [e]
            intro v H1 F1 le1 rel1 ok1
            obtain ⟨a, zs, rfl, t, r⟩ := (rel1.view (G := GK X ex) ok1 e4).lst rel1.fH
            exact ⟨a, zs, rfl, SqL.of t, fun p hp => q _ _ _ (le1.trans (FLe.upd _ (rel1.fH.noneOf hp))) (rel1.after (New.obj rel1.fH hp _)) (.lst upd_same (r.reverse.mono (FLe.upd _ (rel1.fH.noneOf hp))))⟩⟩
        | tup xs =>
          refine .inr ⟨ρ, F, Rv, io, rel, by
            rw [e]
            intro v H1 F1 le1 rel1 ok1
            obtain ⟨a, zs, rfl, t, r⟩ := (rel1.view (G := GK X ex) ok1 e4).sqT rel1.fH
            exact ⟨a, zs, rfl, t, fun p o hp ho => q _ _ _ (le1.trans (FLe.upd _ (rel1.fH.noneOf hp))) (rel1.after (New.obj rel1.fH hp _)) (.tup (.new ho) (r.reverse.mono (FLe.upd _ (rel1.fH.noneOf hp))))⟩⟩
        | _ => exact q.elim
end
end Dt

set_option Elab.async false
set_option linter.all false
set_option maxRecDepth 100000
set_option maxHeartbeats 4000000
/-! dict(t), t a tuple of pairs. -/
namespace Dt
open PySem PySem.Spec PyProof.Rows L2
section
variable {X : Cx} {pins : List (Addr × Obj)} {σ : L2.St} {H : Hp} {s : Shared}
theorem pairsV (I : Inv X pins σ H s) : ∀ {ps : List Addr} {kvs : List (Key × V)}, Paired (fun p kv => SqT X.K H p [kV kv.1, kv.2]) ps kvs →
    ∃ (us : List (Value × Value)) (prs : List (Key × Value)), KV kvs prs ∧ us.length = ps.length ∧ prs.length = ps.length ∧ ∀ (j : Nat) (k v : Value), us[j]? = some (k, v) → ∃ (b : Addr) (key : Key), ps[j]? = some b ∧ IsTup s.heap b #[k, v] ∧ prs[j]? = some (key, v) ∧ keyIs key k = true
  | _, _, .nil => ⟨[], [], .nil, rfl, rfl, fun j k v e => by simp at e⟩
  | _, _, .cons (a := p) (b := kv) h t => by
    obtain ⟨us, prs, r, l1, l2, hp⟩ := pairsV I t
    obtain ⟨its, rv, ht, _⟩ := I.tuple h
    obtain ⟨u, y, ei, ru, ry⟩ := vals2 rv
    subst ei
    refine ⟨(u, y) :: us, (kv.1, y) :: prs, .cons ⟨rfl, ry⟩ r, by simp [l1], by simp [l2], fun j k v e => ?_⟩
    cases j with
    | zero =>
      obtain ⟨rfl, rfl⟩ := Prod.mk.inj (Option.some.inj e)
      exact ⟨p, kv.1, rfl, ht, rfl, kV_is (P := X.prog) (w := X.w) ru⟩
    | succ j =>
      obtain ⟨b, key, e1, e2, e3, e4⟩ := hp j k v (by simpa using e)
      exact ⟨b, key, by simpa using e1, e2, by simpa using e3, e4⟩
def rDictT0 (K : PySem.W.Frag) : List V → Hp → VK → Prop := fun xs H Q => ∃ (a : Addr) (ps : List Addr) (kvs : List (Key × V)), xs = [V.ref a] ∧ TupC H a (ps.map V.ref) ∧ Paired (fun p kv => SqT K H p [kV kv.1, kv.2]) ps kvs ∧ ∀ p, H p = none → Q (.ref p) (upd H p (.dK (mergeK [] kvs)))
theorem call_dictT0 (calm : X.calm = true) : CallR X (.type "dict") (rDictT0 X.K) := by
  intro pins s σ H xs us Q I r ⟨a, ps, kvs, ex, ⟨o, hd, ha⟩, hp, q⟩
  subst ex
  obtain ⟨u, eu, rx⟩ := vals1 r
  subst eu; cases rx
  obtain ⟨at1, hz, its, rv, o2, at2, hc, n, hdat⟩ := I.hok a _ ha
  obtain rfl : o = o2 := Option.some.inj (at1.symm.trans at2)
  obtain rfl := refs_at rv
  rw [List.length_map] at hz
  obtain ⟨vs, prs, rel, l1, l2, hpr⟩ := pairsV I hp
  refine PySem.call_dict_pairs (knd := mixKind X.prog X.w) (kvs := prs) (PairArg.tuple a (ps.map Value.ref).toArray (fun j => ps.getD j 0) vs) (I.ok.hd calm) ⟨⟨o, n, at1, hc, hd, hdat⟩, by simp [l1], fun j k v e => ?_⟩ ⟨by omega, fun j k v e => ?_⟩ (by omega) fun h1 tk hd1 old => ?_
  · obtain ⟨b, key, e1, e2, e3, e4⟩ := hpr j k v e
    exact ⟨by simp [e1], .inl (by show s.heap.IsTuple (ps.getD j 0) #[k, v]; rw [List.getD_eq_getElem?_getD, e1]; exact e2)⟩
  · obtain ⟨b, key, e1, e2, e3, e4⟩ := hpr j k v e
    exact ⟨key, e3, e4⟩
  · have big : (s.heap.objs.size == sysModules) = false := beq_eq_false_iff_ne.mpr (Nat.ne_of_gt I.big)
    have fits : (mergeK [] kvs).length ≤ sizeLine := Nat.le_trans (length_mergeK kvs []) (by rw [List.length_nil, Nat.zero_add, rel.length, l2]; exact hz)
    exact ⟨.ref s.heap.objs.size, _, I.laid (t' := tk) (o := .dK (mergeK [] kvs)) (fun b o e => old b o (by simp) e) (Nat.le_refl _) ⟨fits, big, merged [] prs, KV.merge rel .nil, hd1⟩, rfl, q _ (I.hok.fresh (Nat.le_refl _))⟩
/-- .. or the copy of a dict -/
def rDictL (K : PySem.W.Frag) : List V → Hp → VK → Prop := fun xs H Q => ∃ (a : Addr) (ps : List Addr) (kvs : List (Key × V)), xs = [V.ref a] ∧ SqL K H a (ps.map V.ref) ∧ Paired (fun p kv => SqT K H p [kV kv.1, kv.2]) ps kvs ∧ ∀ p, H p = none → Q (.ref p) (upd H p (.dK (mergeK [] kvs)))
def rDictT (K : PySem.W.Frag) : List V → Hp → VK → Prop := fun xs H Q => rDictT0 K xs H Q ∨ (∃ (a : Addr) (kvs : List (Key × V)), xs = [V.ref a] ∧ Rd H a (.dK kvs) ∧ ∀ p, H p = none → Q (.ref p) (upd H p (.dK kvs))) ∨ rDictL K xs H Q
theorem call_dictT (calm : X.calm = true) : CallR X (.type "dict") (rDictT X.K) := by
  intro pins s σ H xs us Q I r h
  rcases h with h | h | h
  · exact call_dictT0 calm pins s σ H xs us Q I r h
  · exact call_dictD pins s σ H xs us Q I r h
  · exact call_dictP calm pins s σ H xs us Q I r h
end
/-- the pairs' keys and values, one put behind the other -/
def dictGo : List D → List Key × List D → Option (List Key × List D)
  | [], acc => some acc
  | .tup [k, d] :: ds, acc => (keyOf k).bind fun k => dictGo ds (dPut acc.1 acc.2 k d)
  | _ :: _, _ => none
def gDict : List D → Option D
  | [.tup ds] => (dictGo ds ([], [])).map fun r => .dct r.1 r.2
  | [.dct ks ds] => some (.dct ks ds)
  | [.lst ds] => (dictGo ds ([], [])).map fun r => .dct r.1 r.2
  | _ => none
section
variable {K : PySem.W.Frag} {F H : Hp}
theorem dict_go_rps : ∀ {vs : List V} {ds : List D} {acc : List (Key × V)} {da : List D} {r : List Key × List D}, Rps K F vs ds → Rps K F (acc.map (·.2)) da → dictGo ds (acc.map (·.1), da) = some r →
    ∃ (ps : List Addr) (kvs : List (Key × V)), vs = ps.map V.ref ∧ Paired (fun p kv => TupC F p [kV kv.1, kv.2]) ps kvs ∧ (mergeK acc kvs).map (·.1) = r.1 ∧ Rps K F ((mergeK acc kvs).map (·.2)) r.2
  | _, _, acc, da, r, .nil, ra, e => by
    cases e
    exact ⟨[], [], rfl, .nil, rfl, ra⟩
  | _, _, acc, da, r, .cons (v := v) (d := d) h t, ra, e => by
    unfold dictGo at e
    split at e
    · rename_i h0; cases h0
    · rename_i k d ds h0
      cases h0
      cases h with
      | tup tc r2 =>
        cases r2 with
        | cons hk r3 =>
          cases r3 with
          | cons hd r4 =>
            cases r4
            cases ek : keyOf k with
            | none => rw [ek] at e; cases e
            | some key =>
              rw [ek, Option.bind_some] at e
              have ew := keyOf_vw (H := F) (.inl hk) ek
              subst ew
              obtain ⟨k1, k2⟩ := dPut_put (k := key) hd ra
              obtain ⟨ps, kvs, e1, e2, e3, e4⟩ := dict_go_rps (acc := putK acc key _) t k2 (by rw [k1]; exact e)
              exact ⟨_ :: ps, (key, _) :: kvs, by rw [e1]; rfl, .cons tc e2, e3, e4⟩
    · cases e
end
section
variable {G : Gx} {ex : Exx} {X : Cx} {W : WX}
theorem fsem_dict : FSem G (rDictT G.K) gDict := fun F H vs ds d Q fh vw e q => by
  unfold gDict at e
  split at e
  · rename_i ds
    cases e1 : dictGo ds ([], []) with
    | none => rw [e1] at e; cases e
    | some r =>
      rw [e1] at e
      cases e
      cases vw with
      | cons h t =>
        cases t
        rcases h with h | ⟨_, _, _, _, h⟩
        · cases h with
          | tup tc rs =>
            obtain ⟨ps, kvs, e2, e3, e4, e5⟩ := dict_go_rps (acc := []) rs .nil e1
            subst e2
            exact .inl ⟨_, ps, kvs, rfl, fh.tupC tc, paired_on (fun u _ w hw => (fh.tupC hw).sq) e3, fun p hp => q p _ hp ⟨_, rfl, e4, e5⟩⟩
        · exact h.elim
  · cases e
    obtain ⟨v, rfl, h⟩ := vw.one
    obtain ⟨a, kvs, rfl, rd, rfl, r⟩ := h.dct fh
    exact .inr (.inl ⟨a, kvs, rfl, rd, fun p hp => q p _ hp ⟨_, rfl, rfl, r⟩⟩)
  · rename_i ds
    cases e1 : dictGo ds ([], []) with
    | none => rw [e1] at e; cases e
    | some r =>
      rw [e1] at e
      cases e
      obtain ⟨v, rfl, h⟩ := vw.one
      obtain ⟨a, zs, rfl, t, rs⟩ := h.lst fh
      obtain ⟨ps, kvs, e2, e3, e4, e5⟩ := dict_go_rps (acc := []) rs .nil e1
      subst e2
      exact .inr (.inr ⟨a, ps, kvs, rfl, SqL.of t, paired_on (fun u _ w hw => (fh.tupC hw).sq) e3, fun p hp => q p _ hp ⟨_, rfl, e4, e5⟩⟩)
  · cases e
end
/-! ### d.get(k), d.get(k, x) -/
def sGet1 (so : SO) (sk : SE) : SE := fun ρ => (so ρ).bind fun o ρ1 => match o.get ρ1 with
  | some (.dct _ _) => (sk ρ1).bind fun kd ρ2 => match o.get ρ2, keyOf kd with
    | some (.dct ks ds), some k => .ok ((dLook ks ds k).getD .non) ρ2
    | _, _ => .stuck
  | _ => .stuck
def sGet2 (so : SO) (sk sx : SE) : SE := fun ρ => (so ρ).bind fun o ρ1 => match o.get ρ1 with
  | some (.dct _ _) => (sk ρ1).bind fun kd ρ2 => (sx ρ2).bind fun x ρ3 => match o.get ρ3, keyOf kd with
    | some (.dct ks ds), some k => .ok ((dLook ks ds k).getD x) ρ3
    | _, _ => .stuck
  | _ => .stuck
@[simp] theorem ev_get1 (so : SO) (sk : SE) (ρ : Env) : sGet1 so sk ρ = (so ρ).bind fun o ρ1 => match o.get ρ1 with
  | some (.dct _ _) => (sk ρ1).bind fun kd ρ2 => match o.get ρ2, keyOf kd with
    | some (.dct ks ds), some k => .ok ((dLook ks ds k).getD .non) ρ2
    | _, _ => .stuck
  | _ => .stuck := rfl
@[simp] theorem ev_get2 (so : SO) (sk sx : SE) (ρ : Env) : sGet2 so sk sx ρ = (so ρ).bind fun o ρ1 => match o.get ρ1 with
  | some (.dct _ _) => (sk ρ1).bind fun kd ρ2 => (sx ρ2).bind fun x ρ3 => match o.get ρ3, keyOf kd with
    | some (.dct ks ds), some k => .ok ((dLook ks ds k).getD x) ρ3
    | _, _ => .stuck
  | _ => .stuck := rfl
section
variable {ex : Exx} {X : Cx} {W : WX} {o e f : Expr} {apos cpos : Pos} {so : SO} {sk sx : SE}
theorem vw_isD {K : PySem.W.Frag} {F H : Hp} (fh : FLe F H) {v : V} {ks : List Key} {ds : List D} (h : Vw K F H v (.dct ks ds)) : ∃ a, v = .ref a ∧ IsD H a := by
  obtain ⟨a, kvs, e, rd, _⟩ := h.dct fh
  exact ⟨a, e, .inl ⟨kvs, rd⟩⟩
theorem d_get1 (hu : At X W) (ho : DO (GK X ex) X W o so) (he : DE (GK X ex) X W e sk) (m : M1 X o "get" apos e cpos := by exact ⟨rfl, rfl, rfl, rfl⟩) : DE (GK X ex) X W (.Call (.Attribute o "get" apos) [e] [] cpos) (sGet1 so sk) :=
  wkE (pe_dget1 (by have := hu.un; omega) ho he m) fun σ H Q ⟨ρ, F, Rv, io, rel, q⟩ => by
    refine ⟨ρ, F, Rv, io, rel, ?_⟩
    unfold sGet1 at q
    cases e1 : so ρ with
    | stuck => rw [e1] at q; exact q.elim
    | exc x ρ' => rw [e1] at q; exact q
    | ok od ρ1 =>
      rw [e1, R.bind_ok] at q
      intro v H1 F1 le1 rel1 ok1
      cases e2 : od.get ρ1 with
      | none => rw [e2] at q; exact q.elim
      | some d =>
        rw [e2] at q
        cases d with
        | dct ks ds =>
          obtain ⟨a, rfl, isd⟩ := vw_isD rel1.fH (rel1.view (G := GK X ex) ok1 e2)
          refine ⟨a, rfl, isd, ρ1, F1, Rv, io, rel1, ?_⟩
          cases e3 : sk ρ1 with
          | stuck => rw [e3] at q; exact q.elim
          | exc x ρ' => rw [e3] at q; exact XPost.le q le1
          | ok kd ρ2 =>
            rw [e3] at q
            intro kv H2 F2 le2 rel2 rk
            have q : match (match od.get ρ2, keyOf kd with | some (.dct ks ds), some k => R.ok ((dLook ks ds k).getD .non) ρ2 | _, _ => .stuck) with | .ok d ρ' => EPost (GK X ex) io Rv F σ ρ' d Q | .exc x ρ' => XPost (GK X ex) W io Rv F ρ' x | .stuck => False := q
            cases e4 : od.get ρ2 with
            | none => rw [e4] at q; exact q.elim
            | some d2 =>
              rw [e4] at q
              cases d2 with
              | dct ks2 ds2 =>
                cases e5 : keyOf kd with
                | none => rw [e5] at q; exact q.elim
                | some k =>
                  rw [e5] at q
                  have q : EPost (GK X ex) io Rv F σ ρ2 ((dLook ks2 ds2 k).getD .non) Q := q
                  obtain ⟨b, kvs, eb, rd, ek, r⟩ := (rel2.view (G := GK X ex) (ok1.mono le2) e4).dct rel2.fH
                  cases eb
                  have ew := keyOf_vw (H := F2) (.inl rk) e5
                  refine ⟨valV kvs k, .inl ⟨kvs, k, rd, ew, rfl⟩, ?_⟩
                  rcases dLook_val k ek r with ⟨z1, z2⟩ | ⟨u, d', z1, z2, rp⟩
                  · rw [z1]; rw [z2] at q; exact q _ _ _ (le1.trans le2) rel2 .non
                  · rw [z1]; rw [z2] at q; exact q _ _ _ (le1.trans le2) rel2 rp
              | _ => exact q.elim
        | _ => exact q.elim
theorem d_get2 (hu : At X W) (ho : DO (GK X ex) X W o so) (he : DE (GK X ex) X W e sk) (hf : DE (GK X ex) X W f sx) (m : M2 X o "get" apos e f cpos := by exact ⟨rfl, rfl, rfl, rfl⟩) : DE (GK X ex) X W (.Call (.Attribute o "get" apos) [e, f] [] cpos) (sGet2 so sk sx) :=
  wkE (pe_dget2 (by have := hu.un; omega) ho he hf m) fun σ H Q ⟨ρ, F, Rv, io, rel, q⟩ => by
    refine ⟨ρ, F, Rv, io, rel, ?_⟩
    unfold sGet2 at q
    cases e1 : so ρ with
    | stuck => rw [e1] at q; exact q.elim
    | exc x ρ' => rw [e1] at q; exact q
    | ok od ρ1 =>
      rw [e1, R.bind_ok] at q
      intro v H1 F1 le1 rel1 ok1
      cases e2 : od.get ρ1 with
      | none => rw [e2] at q; exact q.elim
      | some d =>
        rw [e2] at q
        cases d with
        | dct ks ds =>
          obtain ⟨a, rfl, isd⟩ := vw_isD rel1.fH (rel1.view (G := GK X ex) ok1 e2)
          refine ⟨a, rfl, isd, ρ1, F1, Rv, io, rel1, ?_⟩
          cases e3 : sk ρ1 with
          | stuck => rw [e3] at q; exact q.elim
          | exc x ρ' => rw [e3] at q; exact XPost.le q le1
          | ok kd ρ2 =>
            rw [e3] at q
            intro kv H2 F2 le2 rel2 rk
            refine ⟨ρ2, F2, Rv, io, rel2, ?_⟩
            have q : match ((sx ρ2).bind fun x ρ3 => match od.get ρ3, keyOf kd with | some (.dct ks ds), some k => R.ok ((dLook ks ds k).getD x) ρ3 | _, _ => .stuck) with | .ok d ρ' => EPost (GK X ex) io Rv F σ ρ' d Q | .exc x ρ' => XPost (GK X ex) W io Rv F ρ' x | .stuck => False := q
            cases e6 : sx ρ2 with
            | stuck => rw [e6] at q; exact q.elim
            | exc x ρ' => rw [e6] at q; exact XPost.le q (le1.trans le2)
            | ok xd ρ3 =>
            rw [e6, R.bind_ok] at q
            intro xv H3 F3 le3 rel3 rx
            cases e4 : od.get ρ3 with
            | none => rw [e4] at q; exact q.elim
            | some d2 =>
              rw [e4] at q
              cases d2 with
              | dct ks2 ds2 =>
                cases e5 : keyOf kd with
                | none => rw [e5] at q; exact q.elim
                | some k =>
                  rw [e5] at q
                  have q : EPost (GK X ex) io Rv F σ ρ3 ((dLook ks2 ds2 k).getD xd) Q := q
                  obtain ⟨b, kvs, eb, rd, ek, r⟩ := (rel3.view (G := GK X ex) (ok1.mono (le2.trans le3)) e4).dct rel3.fH
                  cases eb
                  have ew := keyOf_vw (H := F2) (.inl rk) e5
                  refine ⟨valV kvs k, .inl ⟨kvs, k, rd, ew, rfl⟩, ?_⟩
                  rcases dLook_val k ek r with ⟨z1, z2⟩ | ⟨u, d', z1, z2, rp⟩
                  · rw [z1]; rw [z2] at q; exact q _ _ _ ((le1.trans le2).trans le3) rel3 rx
                  · rw [z1]; rw [z2] at q; exact q _ _ _ ((le1.trans le2).trans le3) rel3 rp
              | _ => exact q.elim
        | _ => exact q.elim
end
end Dt

set_option Elab.async false
set_option linter.all false
set_option maxRecDepth 100000
set_option maxHeartbeats 4000000
/-! Statements that never run; two and three variables set at once. -/
namespace Dt
open PySem PySem.Spec PyProof.Rows L2
section
variable {ex : Exx} {X : Cx} {W : WX} {pos : Pos}
/-- a statement whose meaning is stuck: that it is never run is the plain law's to show -/
def sNever : SS := fun _ => .stuck
@[simp] theorem ev_never (ρ : Env) : sNever ρ = .stuck := rfl
theorem d_never {st : Stmt} : DS (GK X ex) X W st sNever := ⟨fun pins s σ H D I h => by
  obtain ⟨ρ, F, Rv, io, rel, q⟩ := h
  exact q.elim⟩
/-- a, b = x, y -/
def sPar (i j : Nat) (s : SA) : SS := fun ρ => (s ρ).bind fun ds ρ1 => match ds with
  | [d, e] => (gSet i d ρ1).bind fun _ ρ2 => (gSet j e ρ2).bind fun _ ρ3 => .ok .nx ρ3
  | _ => .stuck
@[simp] theorem ev_par (i j : Nat) (s : SA) (ρ : Env) : sPar i j s ρ = (s ρ).bind fun ds ρ1 => match ds with
  | [d, e] => (gSet i d ρ1).bind fun _ ρ2 => (gSet j e ρ2).bind fun _ ρ3 => .ok .nx ρ3
  | _ => .stuck := rfl
theorem d_par {i j : Nat} {x y : Str} {a b : Expr} {sA : SA} {px py pt : Pos} {kt k2 pt2} (hu : At X W) (hi : X.N[i]? = some x) (hj : X.N[j]? = some y) (hij : i ≠ j) (hx : X.env.scope.names.lookup x = some .local) (hy : X.env.scope.names.lookup y = some .local)
    (ha : DA (GK X ex) X W [a, b] sA) (hw : swappedStores [.Tuple [.Name x px, .Name y py] kt pt] (.Tuple [a, b] k2 pt2) X.env = pure (some [x, y])) (hs : swapsWithSole [.Tuple [.Name x px, .Name y py] kt pt] (.Tuple [a, b] k2 pt2) pos.line X.env = pure false := by rfl) :
    DS (GK X ex) X W (.Assign [.Tuple [.Name x px, .Name y py] kt pt] (.Tuple [a, b] k2 pt2) pos) (sPar i j sA) := wkS (ps_par hu.calm hu.nd hi hj hij hx hy ha hw hs) fun D σ H ⟨ρ, F, Rv, io, rel, q⟩ => by
  refine ⟨ρ, F, Rv, io, rel, ?_⟩
  unfold sPar at q
  cases e : sA ρ with
  | stuck => rw [e] at q; exact q.elim
  | exc x ρ' => rw [e] at q; exact q
  | ok ds ρ1 =>
    rw [e, R.bind_ok] at q
    intro vs H1 F1 le1 rel1 r
    match ds, r, q with
    | [d1, d2], .cons (v := v1) r1 (.cons (v := v2) r2 .nil), q =>
      refine ⟨v1, v2, rfl, ?_⟩
      cases e1 : gSet i d1 ρ1 with
      | stuck => dsimp only at q; rw [e1] at q; exact q.elim
      | exc x ρ'' => unfold gSet at e1; split at e1 <;> cases e1
      | ok u ρ2 =>
        dsimp only at q
        rw [e1, R.bind_ok] at q
        obtain ⟨h1, rfl⟩ := gSet_ok e1
        cases e2 : gSet j d2 (ρ1.set i (.fro d1)) with
        | stuck => rw [e2] at q; exact q.elim
        | exc x ρ'' => unfold gSet at e2; split at e2 <;> cases e2
        | ok u ρ3 =>
          rw [e2, R.bind_ok] at q
          obtain ⟨h2, rfl⟩ := gSet_ok e2
          exact q _ H1 F1 le1 ((rel1.setFro r1 h1).setFro r2 h2)
end
end Dt

set_option Elab.async false
set_option linter.all false
set_option maxRecDepth 100000
set_option maxHeartbeats 4000000
/-! Defs with one star parameter and no other. -/
namespace Dt
open PySem PySem.Spec PyProof.Rows L2 StX
section
variable {P : Program} {w : World} {K : PySem.W.Frag} {mg : Str → Option Value} {base : Heap}
theorem upN {P : Program} {w : World} : StX.CXUp (L2N.CX P w) := fun outer s H s2 H2 E e s' un kp ho ⟨a, B, G, cls, d, ea, fl, hok, ub, na, os, ag, he⟩ => by
  have fr : ∀ {b o}, s.heap.get? b = some o → H b = none → H2 b = none := fun {b o} q n => un.free b o q n (fun z => nomatch z)
  refine ⟨a, B, G, cls, d, ea, fl, hok, { keep := ?_, slot := ?_, free := ?_, there := ?_, tups := ?_, frzs := ?_, tbls := ?_ }, na, os.trans ho, ag, he⟩
  · exact fun b o q n => ub.keep b o (kp b o q) (fr q n)
  · exact fun b o q => ub.slot b o (kp b o q)
  · exact fun b o q n => ub.free b o (kp b o q) (fr q n)
  · exact fun b o q => ub.there b o (kp b o q)
  · exact fun b xs q => ub.tups b xs (un.tups b xs q)
  · exact fun b o xs q => ub.frzs b o xs (un.frzs b o xs q)
  · exact fun b ps q => let ⟨m1, e1⟩ := un.tbls b ps q; let ⟨m2, e2⟩ := ub.tbls b _ e1; ⟨m1 ++ m2, e2.trans (by rw [Array.append_assoc])⟩
/-- what a call with the values vs promises: the body, the tuple of them at a new address -/
def spS (G : Gx) (g : List D → FR) : Sp := fun vs H Q E => vs.length ≤ sizeLine ∧ ∀ p, H p = none → spP G 1 g [V.ref p] (upd H p (.tup vs)) Q E
theorem d_defS {x qual : Str} {st : Stmt} {f : Addr} {fd : FuncData} {N : List Str} {pv : Str} {k : Nat} {body : SS} (ea : String → Addr) (F : Fun K x qual st f fd) (S : FnScope N [pv] (defScope st))
    (hb : ∀ us rest : List Value, us.length = ([] : List Str).length → bindArgs fd ⟨us ++ rest, []⟩ = (newTuple rest >>= fun t => pure (([] : List Str).zip us ++ [(pv, t)])))
    (h : ∀ (cdv : Value) (A : Around) (outer : List PySem.Env) (s : Shared) (H : Hp) (E : XK), Room k (A.deeper (envOfC qual (defScope st) s.heap.objs.size f cdv)) →
      DSs ⟨K, ⟨ea, []⟩⟩ (cxOf (L2N.CX P w) P w K mg base N qual (defScope st) f cdv A outer s H E) (wE E) (defBody st) body) : FnR P w K mg base (L2N.CX P w) (k + 1) f (spS ⟨K, ⟨ea, []⟩⟩ (runP N.length 1 body)) := by
  obtain ⟨oc, od, kV, doc, pm, an, cdv, ct, osl, rfl, lk, hcd⟩ := F.ex
  refine FnR.imp (fn_star (ps := []) (pv := pv) (sp := spP ⟨K, ⟨ea, []⟩⟩ 1 (runP N.length 1 body)) lk hcd S upN hb fun A outer s H vs Q E hr ⟨ds, F0, Rv, hl, ap, r, q⟩ => ⟨_, h cdv A outer s H E hr, ?_⟩) fun vs H Q E ⟨z, q⟩ => ⟨[], vs, rfl, rfl, z, q⟩
  have e0 : L2.start N vs = vs.map some ++ List.replicate (N.length - 1) none := by unfold L2.start; rw [hl]
  rw [e0]
  refine ⟨_, F0, Rv, {}, rel_start ap r, ?_⟩
  unfold runP at q
  cases e : body (ds.map Cell.fro ++ List.replicate (N.length - 1) Cell.no) with
  | stuck => rw [e] at q; exact q.elim
  | exc x ρ' => rw [e] at q; exact fun cls dd σ' H' F' le rel xr => q cls dd H' F' le ⟨rel.fH, rel.rH, rel.dj, rel.nt⟩ xr
  | ok fl ρ' =>
    rw [e] at q
    cases fl with
    | nx => exact fun σ' H' F' le rel => q _ H' F' le ⟨rel.fH, rel.rH, rel.dj, rel.nt⟩ .non
    | bk => exact q.elim
    | ct => exact q.elim
    | rt d => exact fun v σ' H' F' le rel rp => q v H' F' le ⟨rel.fH, rel.rH, rel.dj, rel.nt⟩ rp
/-- a def of the text with one star parameter, as it stands; and what it computes -/
structure FnS (K : PySem.W.Frag) (mg : Str → Option Value) (x : Str) (st : Stmt) (pv : Str) : Prop where
  there : ∃ f fd, Fun K x x st f fd ∧ mg x = some (.ref f) ∧ ∀ us rest : List Value, us.length = ([] : List Str).length → bindArgs fd ⟨us ++ rest, []⟩ = (newTuple rest >>= fun t => pure (([] : List Str).zip us ++ [(pv, t)]))
structure CalS (P : Program) (w : World) (K : PySem.W.Frag) (mg : Str → Option Value) (base : Heap) (x : Str) (k : Nat) (sp : Sp) : Prop where
  there : ∃ f, FnR P w K mg base (L2N.CX P w) k f sp ∧ mg x = some (.ref f) ∧ PySem.W.keepIn K (.ref f) = true
theorem CalS.mono {j k : Nat} {x : Str} {sp : Sp} (C : CalS P w K mg base x j sp) (h : j ≤ k) : CalS P w K mg base x k sp := let ⟨f, F, r⟩ := C.there; ⟨f, FnR.mono F h, r⟩
theorem cal_S {x : Str} {st : Stmt} {N : List Str} {pv : Str} {k : Nat} {body : SS} (ea : String → Addr) (F : FnS K mg x st pv) (S : FnScope N [pv] (defScope st))
    (h : ∀ (f : Addr) (cdv : Value) (A : Around) (outer : List PySem.Env) (s : Shared) (H : Hp) (E : XK), Room k (A.deeper (envOfC x (defScope st) s.heap.objs.size f cdv)) →
      DSs ⟨K, ⟨ea, []⟩⟩ (cxOf (L2N.CX P w) P w K mg base N x (defScope st) f cdv A outer s H E) (wE E) (defBody st) body) : CalS P w K mg base x (k + 1) (spS ⟨K, ⟨ea, []⟩⟩ (runP N.length 1 body)) := by
  obtain ⟨f, fd, F, hm, hb⟩ := F.there
  exact ⟨f, d_defS ea F S hb (h f), hm, F.kp⟩
end
section
variable {ex : Exx} {X : Cx} {W : WX} {e : Expr} {es : List Expr} {pos p : Pos} {x : Str} {sA : SA} {k : Nat} {g : List D → FR}
theorem pe_callFR {CX : CXT} {f : Addr} {sp : Sp} {E : L2.St → XK} {t : TA} (F : FnR X.prog X.w X.K X.mg X.base CX k f sp) (hr : Room k X.A) (hg : Gl X x) (hm : X.mg x = some (.ref f)) (hk : PySem.W.keepIn X.K (.ref f) = true) (hx : ∀ σ, PassesAt CX X σ (E σ))
    (ha : PA X (e :: es) t) (hdb : (x == ("__debug__" : Str)) = false := by decide) (he : starEach (e :: es) X.env = (false, eval e X.env) :: starEach es X.env := by rfl) (hpl : (backTo pos (starEach es X.env)).any (·.1) = false := by rfl) : PE X (.Call (.Name x p) (e :: es) [] pos) (tCallS sp E t) := by
  constructor; intro pins s σ H Q I h
  refine wpAny_Call_Name_kw (ld_glob I hg hm (PySem.W.callWith_K (h₀ := X.base) I.ok.mod.kin hk (thn (ha.run pos pins s σ H _ I h) fun us s1 ⟨vs, H1, I1, r, q⟩ => ⟨I1.kIn, wpAny_call (codeAny_mono (F X.A X.stack s1 H1 us vs Q (E σ) hr I1.env0 r q) fun r s' hq => ?_)⟩) he hpl) hdb)
  cases r with
  | error e => exact hx σ pins H1 s1 e s' I1 hq
  | ok fl =>
    cases fl with
    | ret u => exact I1.after hq
    | _ => exact False.elim hq
def sCallS (g : List D → FR) (s : SA) : SE := fun ρ => (s ρ).bind fun ds ρ' => if ds.length ≤ sizeLine then endP (g [.arg ds]) ρ' else .stuck
@[simp] theorem ev_callS (g : List D → FR) (s : SA) (ρ : Env) : sCallS g s ρ = (s ρ).bind fun ds ρ' => if ds.length ≤ sizeLine then endP (g [.arg ds]) ρ' else .stuck := rfl
theorem d_callS (hu : At X W) (C : CalS X.prog X.w X.K X.mg X.base x k (spS (GK X ex) g)) (hr : Room k X.A) (hg : Gl X x)
    (ha : DA (GK X ex) X W (e :: es) sA) (hdb : (x == ("__debug__" : Str)) = false := by decide) (he : starEach (e :: es) X.env = (false, eval e X.env) :: starEach es X.env := by rfl) (hpl : (backTo pos (starEach es X.env)).any (·.1) = false := by rfl) :
    DE (GK X ex) X W (.Call (.Name x p) (e :: es) [] pos) (sCallS g sA) :=
  let ⟨f, F, hm, hk⟩ := C.there
  wkE (pe_callFR (E := WE W) F hr hg hm hk (fun σ => L2N.passAt hu.tk σ) ha hdb he hpl) fun σ H Q ⟨ρ, F, Rv, io, rel, q⟩ => by
    refine ⟨ρ, F, Rv, io, rel, ?_⟩
    unfold sCallS at q
    cases e : sA ρ with
    | stuck => rw [e] at q; exact q.elim
    | exc x ρ' => rw [e] at q; exact q
    | ok ds ρ' =>
      rw [e, R.bind_ok] at q
      intro vs H1 F1 le rel1 r
      by_cases hn : ds.length ≤ sizeLine
      · rw [if_pos hn] at q
        refine ⟨by rw [r.length]; exact hn, fun a ha => ?_⟩
        have leN : FLe F1 (upd F1 a (.tup vs)) := FLe.upd _ (rel1.fH.noneOf ha)
        have relN := rel1.after (New.obj rel1.fH ha (.tup vs))
        refine ⟨[.arg ds], upd F1 a (.tup vs), restOf (upd F1 a (.tup vs)) (upd H1 a (.tup vs)) none, rfl, restOf_apart relN none, .cons (.arg (.inl (.inl upd_same)) (r.mono leN)) .nil, ?_⟩
        cases e2 : g [.arg ds] with
        | stuck => rw [e2] at q; exact q.elim
        | ok d o => rw [e2] at q; exact fun v H' F' le2 ap rp => q v H' F' ((le.trans leN).trans le2) (relN.behind le2 ap) rp
        | exc x => rw [e2] at q; exact fun cls dd H' F' le2 ap xr => q cls dd σ H' F' ((le.trans leN).trans le2) (relN.behind le2 ap) xr
      · rw [if_neg hn] at q; exact q.elim
end
end Dt

set_option Elab.async false
set_option linter.all false
set_option maxRecDepth 100000
set_option maxHeartbeats 4000000
/-! A dict comprehension with two fors: each clause by one rule, its body told as what it does to the dict so far. -/
namespace Dt
open PySem PySem.Spec PyProof.Rows L2

abbrev Acc := List Key × List D
/-- one clause: the items, one after another; bs: what stands behind it -/
def clGo (vs : List Nat) (g : SG) (bs : Acc → Env → R Acc) : List D → Acc → Env → R Acc
  | [], acc, ρ => .ok acc ρ
  | d :: ds, acc, ρ => (g d ρ).bind fun _ ρ1 => (bs acc ρ1).bind fun acc' ρ2 => if plainAt ρ2 vs = true then clGo vs g bs ds acc' (wipeE ρ2 vs) else .stuck
/-- the last clause's body: k: v is put -/
def putS (sk s : SE) : Acc → Env → R Acc := fun acc ρ => (sk ρ).bind fun kd ρ1 => (s ρ1).bind fun z ρ2 => match keyOf kd with
  | none => .stuck
  | some k => if acc.1.length < sizeLine then .ok (dPut acc.1 acc.2 k z) ρ2 else .stuck
/-- the first one's body: the second clause -/
def innS (vs1 : List Nat) (it1 : SA) (g1 : SG) (bs : Acc → Env → R Acc) : Acc → Env → R Acc := fun acc ρ => (it1 ρ).bind fun ds ρ1 => if plainAt ρ1 vs1 = true then clGo vs1 g1 bs ds acc (wipeE ρ1 vs1) else .stuck
def sDComp2 (vs vs1 : List Nat) (it : SA) (g : SG) (it1 : SA) (g1 : SG) (sk s : SE) : SE := fun ρ => (it ρ).bind fun ds ρ1 =>
  if plainAt ρ1 vs = true then (noX (clGo vs g (innS vs1 it1 g1 (putS sk s)) ds ([], []) (wipeE ρ1 vs))).bind fun zs ρ2 => .ok (.dct zs.1 zs.2) (backE ρ1 ρ2 vs) else .stuck

theorem Keeps.refl {vs : List Nat} {σ : L2.St} : Keeps vs σ σ := ⟨rfl, fun _ _ => rfl⟩
theorem thnX {X : Cx} (hx : X.xe = fun _ _ => False) {α : Type} {t : Sem α} {Q Q' : α → Shared → Prop} {M : Model} {A : Around} {E : Value → Shared → Prop} {s : Shared} (h : wpAny M A t Q X.xe s) (hQ : ∀ a s, Q a s → Q' a s) : wpAny M A t Q' E s := by
  rw [hx] at h
  exact thnF h hQ

/-- a body (what comes behind it is k): from the dict at Dl as it stands to the dict behind it; the slots vs are its own -/
structure BodyOk (G : Gx) (X : Cx) (Dl : Addr) (vs : List Nat) (body : Sem Fin → Sem Fin) (bs : Acc → Env → R Acc) : Prop where
  run : ∀ (pins : List (Addr × Obj)) (σ : L2.St) (H : Hp) (s : Shared) (ρ : Env) (F Rv : Hp) (io : Io G.ex.tabs) (kvs : List (Key × V)) (dn : List D) (zs : Acc) (ρ' : Env), Inv X pins σ H s → Rel G.K io (upd Rv Dl (.dK kvs)) ρ F σ H →
    Rps G.K F (kvs.map (·.2)) dn → bs (kvs.map (·.1), dn) ρ = .ok zs ρ' → ∀ (k : Sem Fin) (Q : Fin → Shared → Prop) (E : Value → Shared → Prop),
    (∀ s' σ' H' kvs' F', Inv X pins σ' H' s' → FLe F F' → Keeps vs σ σ' → Rel G.K io (upd Rv Dl (.dK kvs')) ρ' F' σ' H' → kvs'.map (·.1) = zs.1 → Rps G.K F' (kvs'.map (·.2)) zs.2 → wpAny (model X.prog X.w) X.A k Q E s') →
    wpAny (model X.prog X.w) X.A (body k) Q E s
section
variable {G : Gx} {X : Cx} {Dl : Addr} {vs : List Nat}
theorem body_put {kx vx : Expr} {sk s : SE} {place : Pos} (hx : X.xe = fun _ _ => False) (hk : DE G X W0 kx sk) (he : DE G X W0 vx s) :
    BodyOk G X Dl vs (fun k => (do let kv ← eval kx X.env; let vv ← holding [kv] (eval vx X.env); standAt place; holding [kv, vv] (dictSet Dl kv vv)) >>= fun _ => k) (putS sk s) := by
  refine ⟨fun pins σ H s0 ρ F Rv io kvs dn zs ρ' I rel rps e k Q E q => wpAny_bind ?_⟩
  unfold putS at e
  cases e1 : sk ρ with
  | stuck => rw [e1] at e; cases e
  | exc x ρ1 => rw [e1] at e; cases e
  | ok kd ρ1 =>
    rw [e1, R.bind_ok] at e
    cases e2 : s ρ1 with
    | stuck => rw [e2] at e; cases e
    | exc x ρ2 => rw [e2] at e; cases e
    | ok z ρ2 =>
      rw [e2, R.bind_ok] at e
      cases e3 : keyOf kd with
      | none => rw [e3] at e; cases e
      | some key =>
        rw [e3] at e
        have e : (if kvs.length < sizeLine then R.ok (dPut (kvs.map (·.1)) dn key z) ρ2 else .stuck) = R.ok zs ρ' := by simpa using e
        by_cases hz : kvs.length < sizeLine
        · rw [if_pos hz] at e; cases e
          have r1 := hk.run pins s0 σ H (fun x H1 => ∃ F1, FLe F F1 ∧ Rel G.K io (upd Rv Dl (.dK kvs)) ρ1 F1 σ H1 ∧ Rp G.K F1 x kd) I ⟨ρ, F, _, io, rel, by rw [e1]; exact fun v H' F' a b c => ⟨F', a, b, c⟩⟩
          refine wpAny_bind (thnX hx r1 fun kv s1 ⟨x, H1, I1, rx, F1, le1, rel1, rp1⟩ => ?_)
          have r2 := he.run pins s1 σ H1 (fun x H2 => ∃ F2, FLe F1 F2 ∧ Rel G.K io (upd Rv Dl (.dK kvs)) ρ' F2 σ H2 ∧ Rp G.K F2 x z) I1 ⟨ρ1, F1, _, io, rel1, by rw [e2]; exact fun v H' F' a b c => ⟨F', a, b, c⟩⟩
          refine wpAny_bind (wpAny_holding (thnX hx r2 fun vv s2 ⟨y, H2, I2, ry, F2, le2, rel2, rp2⟩ => wpAny_bind (wpAny_standAt (wpAny_holding ?_))))
          have ek := keyOf_vw (H := H1) (.inl rp1) e3
          subst ek
          obtain ⟨k1, k2⟩ := dPut_put (k := key) rp2 (rps.mono (le1.trans le2))
          exact d_dictSet I2 (rel2.rH Dl _ upd_same) hz rx ry fun s3 I3 => q s3 σ _ (putK kvs key y) F2 I3 (le1.trans le2) Keeps.refl rel2.resPut k1 k2
        · rw [if_neg hz] at e; cases e
/-- a clause's loop -/
theorem clause_loop (hc : X.calm = true) (hx : X.xe = fun _ _ => False) {kx vx : Expr} {gens : List Comprehension} {scope : Scope} {pos : Pos} {depth : Nat} {tg : Expr} {it : Addr} {body : Sem Fin → Sem Fin} {spos : Pos} {js : List Nat} {g : SG} {bs : Acc → Env → R Acc}
    (ht : compTurn (.DictComp kx vx gens scope pos) depth (.ref it) (.ref Dl) X.env = (do
      standAt spos
      match ← pyNext (.ref it) with
      | none => pure (.done .next)
      | some v => do
        letOwnedTupleGo tg (.ref it) v
        assign tg X.env v
        body (again (.compLoop (.DictComp kx vx gens scope pos) depth (.ref it) (.ref Dl) X.env))))
    (pg : DG G X W0 js tg g) (hjs : ∀ j ∈ js, j ∈ vs) (hb : BodyOk G X Dl vs body bs) {fp : List Addr} {tn : Nat → Heap → Prop} {J : It} (T : Turn X.prog X.w X.K tg J fp it tn) {pins : List (Addr × Obj)} {σ : L2.St} (hσ : wipe σ vs = σ)
    (hf : ∀ b ∈ fp, ∀ H : Hp, H b = none → FpOk X pins H b) {io : Io G.ex.tabs} {Rv F0 : Hp} {ds : List D} {zs : Acc} {ρe : Env} (J1 : IterOk G.K J F0 ds) {R' : Result → Shared → Prop}
    (hR : ∀ s' H' kvs' F', Inv X pins σ H' s' → (∀ b ∈ fp, H' b = none) → FLe F0 F' → Rel G.K io (upd Rv Dl (.dK kvs')) ρe F' σ H' → kvs'.map (·.1) = zs.1 → Rps G.K F' (kvs'.map (·.2)) zs.2 → R' (.ok .next) s')
    {s : Shared} {H : Hp} {ρ : Env} {F : Hp} {kvs : List (Key × V)} {dn : List D} (I0 : Inv X pins σ H s) (st0 : tn 0 s.heap) (n0 : ∀ b ∈ fp, H b = none) (le0 : FLe F0 F) (rel0 : Rel G.K io (upd Rv Dl (.dK kvs)) ρ F σ H) (r0 : Rps G.K F (kvs.map (·.2)) dn)
    (go0 : clGo vs g bs ds (kvs.map (·.1), dn) ρ = .ok zs ρe) : codeAny (model X.prog X.w) X.A (.compLoop (.DictComp kx vx gens scope pos) depth (.ref it) (.ref Dl) X.env) R' s := by
  refine codeAny_loop rfl (fun n s' => ∃ (i : Nat) (H' : Hp) (ρi : Env) (Fi : Hp) (kvs : List (Key × V)) (dn : List D), n = ds.length - i ∧ i ≤ ds.length ∧ Inv X pins σ H' s' ∧ tn i s'.heap ∧ (∀ b ∈ fp, H' b = none) ∧ FLe F0 Fi ∧
    Rel G.K io (upd Rv Dl (.dK kvs)) ρi Fi σ H' ∧ Rps G.K Fi (kvs.map (·.2)) dn ∧ clGo vs g bs (ds.drop i) (kvs.map (·.1), dn) ρi = .ok zs ρe) (fun n s1 hI => ?_) ds.length ⟨0, H, ρ, F, kvs, dn, rfl, Nat.zero_le _, I0, st0, n0, le0, rel0, r0, go0⟩
  obtain ⟨i, H1, ρi, Fi, kvs, dn, rfl, hi, I1, st1, n1, le1, rel1, r1, go1⟩ := hI
  show wpAny _ X.A ((compTurn (.DictComp kx vx gens scope pos) depth (.ref it) (.ref Dl) X.env).onRaise fun x => do noteFrame x X.env; theTreesLotGoes x) _ _ s1
  refine wpAny_noted ?_
  rw [ht]
  refine wpAny_bind (wpAny_standAt (wpAny_bind ?_))
  by_cases hlt : i < ds.length
  · refine thnF (T.item X rfl rfl rfl hc i pins s1 σ H1 (fun _ _ => False) I1 (fun b hb => hf b hb H1 (n1 b hb)) st1 (J1.go i Fi H1 le1 rel1.fH hlt)) fun r s2 ⟨u, hr, h2⟩ => ?_
    subst hr
    refine wpAny_bind (thnF h2 fun _ s3 ⟨x, H3, I3, rx, y, st3, n3⟩ => ?_)
    obtain ⟨d, hd, hdr⟩ := drop_at hlt
    rw [hdr] at go1
    unfold clGo at go1
    obtain ⟨F3, nw, rp⟩ := J1.yld i Fi H1 H3 x d le1 rel1.fH hd y
    have rel3 := rel1.after nw
    cases e3 : g d ρi with
    | stuck => rw [e3] at go1; cases go1
    | exc x ρ' => rw [e3] at go1; cases go1
    | ok _ ρ4 =>
      rw [e3, R.bind_ok] at go1
      have I3' := I3.pinned (fun b hb => hf b hb H3 (n3 b hb)) (T.obj _ _ st3)
      have r4 := pg.run (pins ++ pinsAt fp s3.heap) s3 σ H3 x u (fun σ4 H4 => ∃ F4, FLe F3 F4 ∧ Rel G.K io (upd Rv Dl (.dK kvs)) ρ4 F4 σ4 H4 ∧ Keeps js σ σ4) I3' rx ⟨d, ρi, F3, _, io, rel3, rp, by rw [e3]; exact fun σ' H' F' a b c => ⟨F', a, b, c⟩⟩
      refine wpAny_bind (thnX hx r4 fun _ s4 ⟨σ4, H4, I4, F4, le4, rel4, kp4⟩ => ?_)
      cases e5 : bs (kvs.map (·.1), dn) ρ4 with
      | stuck => rw [e5] at go1; cases go1
      | exc x ρ' => rw [e5] at go1; cases go1
      | ok acc ρ5 =>
        rw [e5, R.bind_ok] at go1
        refine hb.run _ σ4 H4 s4 ρ4 F4 Rv io kvs dn acc ρ5 I4 rel4 (r1.mono (nw.f.trans le4)) e5 _ _ _ fun s5 σ5 H5 kvs5 F5 I5 le5 kp5 rel5 k5 r5 => ?_
        by_cases hp : plainAt ρ5 vs = true
        · rw [if_pos hp] at go1
          have out : ∀ j, j ∉ vs → σ5[j]? = (wipe σ vs)[j]? := fun j hj => by rw [hσ, kp5.2 j hj, kp4.2 j fun z => hj (hjs j z)]
          have hw : wipe σ5 vs = σ := (wipe_same (kp5.1.trans kp4.1) out).trans hσ
          have rel6 := rel5.wiped hp
          rw [hw] at rel6
          have pin : ∀ b ∈ fp, ∀ o, s3.heap.get? b = some o → s5.heap.get? b = some o ∧ H5 b = none := fun b hb o eo => let z := I5.pin (b, o) (List.mem_append_right _ (List.mem_append_right _ (mem_pinsAt hb eo))); ⟨z.1, z.2.1⟩
          exact wpAny_pure ⟨rfl, ds.length - (i + 1), by omega, i + 1, H5, wipeE ρ5 vs, F5, kvs5, acc.2, rfl, hlt, I5.unpinned.weak (by rw [← hw, wipe_length]) (fun j v ej => by rw [← hw] at ej; exact (wipe_some ej).1),
            T.keep _ _ _ st3 fun b hb o eo => (pin b hb o eo).1, fun b hb => by obtain ⟨o, eo, _⟩ := T.obj _ _ st3 b hb; exact (pin b hb o eo).2, ((le1.trans nw.f).trans le4).trans le5, rel6, r5, by rw [k5]; exact go1⟩
        · rw [if_neg hp] at go1; cases go1
  · have hi2 : i = ds.length := by omega
    subst hi2
    rw [List.drop_eq_nil_of_le (Nat.le_refl _)] at go1
    unfold clGo at go1
    cases go1
    refine thnF (T.done X rfl rfl rfl hc _ pins s1 σ H1 (fun _ _ => False) I1 (fun b hb => hf b hb H1 (n1 b hb)) st1 (J1.stop Fi H1 le1 rel1.fH)) fun r s2 ⟨hr, I2⟩ => ?_
    subst hr
    exact wpAny_pure (hR s2 H1 kvs Fi I2 n1 le1 rel1 rfl r1)
/-- a clause behind the first one starts -/
theorem start_any {prog : Program} {w : World} {A : Around} {R' : Result → Shared → Prop} {s : Shared} {kx vx : Expr} {gens : List Comprehension} {scope : Scope} {pos : Pos} {n : Nat} {t i : Expr} {ifs : List Expr} {it acc : Value} {env : PySem.Env} (hn : gens[n]? = some ⟨t, i, ifs, 0⟩)
    (h0 : codeAny (model prog w) A (.compLoop (.DictComp kx vx gens scope pos) n it acc env) R' s)
    (h : ∀ E, wpAny (model prog w) A (pyIter it) (fun j s' => codeAny (model prog w) A (.compLoop (.DictComp kx vx gens scope pos) n j acc env) R' s') E s) : codeAny (model prog w) A (.compStart (.DictComp kx vx gens scope pos) n it acc env) R' s := by
  refine codeAny_of_tree ?_
  show wpAny _ _ ((compStart (.DictComp kx vx gens scope pos) n it acc env).onRaise (fun x => do noteFrame x env; standAt theWindowsPlace)) _ _ s
  refine wpAny_notedAt ?_
  unfold compStart
  have hn : (clausesOf (.DictComp kx vx gens scope pos))[n]? = some ⟨t, i, ifs, 0⟩ := hn
  rw [hn]
  refine wpAny_bind (wpAny_askSetting (wpAny_ite ?_))
  split
  · first | exact wpAny_bind (wpAny_pure (wpAny_pure ⟨rfl, h0⟩)) | exact wpAny_pure ⟨rfl, h0⟩
  · refine wpAny_bind (wpAny_rule ?_)
    exact wpAny_bind (wpAny_standAt (wpAny_bind (thn (h _) fun j s' hj => wpAny_pure ⟨rfl, hj⟩)))
theorem wipe_twice {σ : L2.St} {vs : List Nat} : wipe (wipe σ vs) vs = wipe σ vs := wipe_same (wipe_length σ vs) fun _ _ => rfl
theorem body_inner {kx vx tg iter tg1 iter1 : Expr} {scope : Scope} {pos : Pos} {vs1 js1 : List Nat} {it1 : SA} {g1 : SG} {bs : Acc → Env → R Acc} {body1 : Sem Fin → Sem Fin} (hc : X.calm = true) (hx : X.xe = fun _ _ => False)
    (hi1 : DI G X W0 tg1 iter1 it1) (pg1 : DG G X W0 js1 tg1 g1) (hjs1 : ∀ j ∈ js1, j ∈ vs1) (hv : ∀ j ∈ vs1, j ∈ vs) (hs1 : ∀ x, foldedSetIterable iter1 X.env x = pure x) (hb : BodyOk G X Dl vs1 body1 bs)
    (ht : ∀ I : Addr, compTurn (.DictComp kx vx [⟨tg, iter, [], 0⟩, ⟨tg1, iter1, [], 0⟩] scope pos) 1 (.ref I) (.ref Dl) X.env = (do
      standAt iter1.pos
      match ← pyNext (.ref I) with
      | none => pure (.done .next)
      | some v => do
        letOwnedTupleGo tg1 (.ref I) v
        assign tg1 X.env v
        body1 (again (.compLoop (.DictComp kx vx [⟨tg, iter, [], 0⟩, ⟨tg1, iter1, [], 0⟩] scope pos) 1 (.ref I) (.ref Dl) X.env)))) :
    BodyOk G X Dl vs (fun k => do
      let x ← eval iter1 X.env
      standAt iter1.pos
      let x ← foldedSetIterable iter1 X.env x
      let _ ← runOwn (.compStart (.DictComp kx vx [⟨tg, iter, [], 0⟩, ⟨tg1, iter1, [], 0⟩] scope pos) 1 (← holding [x] (pyIter x)) (.ref Dl) X.env) X.env
      k) (innS vs1 it1 g1 bs) := by
  refine ⟨fun pins σ H s0 ρ F Rv io kvs dn zs ρ' I rel rps e k Q E q => ?_⟩
  unfold innS at e
  cases e1 : it1 ρ with
  | stuck => rw [e1] at e; cases e
  | exc x ρ1 => rw [e1] at e; cases e
  | ok ds ρ1 =>
    rw [e1, R.bind_ok] at e
    by_cases hp : plainAt ρ1 vs1 = true
    case neg => rw [if_neg hp] at e; cases e
    rw [if_pos hp] at e
    have r1 := hi1.run pins s0 σ H (fun J H1 => ∃ F1, FLe F F1 ∧ Rel G.K io (upd Rv Dl (.dK kvs)) ρ1 F1 σ H1 ∧ IterOk G.K J F1 ds) I ⟨ρ, F, _, io, rel, by rw [e1]; exact fun J H' F' a b c => ⟨F', a, b, c⟩⟩
    refine wpAny_bind (thnX hx r1 fun v s1 h1 => ?_)
    refine wpAny_bind (wpAny_standAt (wpAny_bind (wpAny_of_eq (hs1 v) (wpAny_bind (wpAny_holding (thnX hx h1 fun itv s2 h2 => ?_))))))
    obtain ⟨I1, fp, tn, J, H2, e2, I2, T, st2, f2, F2, le2, rel2, J1⟩ := h2
    subst e2
    refine wpAny_bind (wpAny_runOwn ?_)
    rw [Around.mark_none]
    have loop : codeAny (model X.prog X.w) X.A (.compLoop (.DictComp kx vx [⟨tg, iter, [], 0⟩, ⟨tg1, iter1, [], 0⟩] scope pos) 1 (.ref I1) (.ref Dl) X.env) (fun r s' => match r with | .ok _ => wpAny (model X.prog X.w) X.A k Q E s' | .error _ => False) s2 :=
      clause_loop hc hx (ht I1) pg1 hjs1 hb T wipe_twice (fun b hb H hn => ⟨hn, (f2 b hb).2⟩) J1
        (fun s' H' kvs' F' I' n' le' rel' k' r' => q s' (wipe σ vs1) H' kvs' F' I' (le2.trans le') ⟨wipe_length σ vs1, fun j hj => by rw [wipe_get, if_neg fun z => hj (hv j z)]⟩ rel' k' r')
        (I2.weak (wipe_length σ vs1) fun j v ej => (wipe_some ej).1) st2 (fun b hb => (f2 b hb).1) (FLe.refl _) (rel2.wiped hp) (rps.mono le2) e
    refine codeAny_mono (start_any (t := tg1) (i := iter1) (ifs := []) rfl loop fun E => T.self X.A 0 _ _ _ st2 loop) fun r s' hr => ?_
    cases r with
    | ok f => exact hr
    | error e => exact hr.elim
end
theorem d_dcomp2F {ex : Exx} {X : Cx} {W : WX} {kx vx tg iter tg1 iter1 : Expr} {scope : Scope} {own : List (Str × Nat)} {pos : Pos} {vs1 js js1 : List Nat} {it it1 : SA} {g g1 : SG} {sk s : SE} (hu : At X W) (hi : DI (GK X ex) X W tg iter it) (ok : BlkOk X.N X.env.scope scope own)
    (hg : ∀ (s : Shared) (H : Hp) (C : Addr) (cl : List (Str × Addr)) (fp : List Addr), DG (GK X ex) (X.blk s H scope (compEnvC scope cl C X.env) fp) W0 js tg g)
    (hi1 : ∀ (s : Shared) (H : Hp) (C : Addr) (cl : List (Str × Addr)) (fp : List Addr), DI (GK X ex) (X.blk s H scope (compEnvC scope cl C X.env) fp) W0 tg1 iter1 it1)
    (hg1 : ∀ (s : Shared) (H : Hp) (C : Addr) (cl : List (Str × Addr)) (fp : List Addr), DG (GK X ex) (X.blk s H scope (compEnvC scope cl C X.env) fp) W0 js1 tg1 g1)
    (hk : ∀ (s' : Shared) (H : Hp) (C : Addr) (cl : List (Str × Addr)) (fp : List Addr), DE (GK X ex) (X.blk s' H scope (compEnvC scope cl C X.env) fp) W0 kx sk)
    (he : ∀ (s' : Shared) (H : Hp) (C : Addr) (cl : List (Str × Addr)) (fp : List Addr), DE (GK X ex) (X.blk s' H scope (compEnvC scope cl C X.env) fp) W0 vx s)
    (hjs : js.all (fun j => (own.map (·.2)).contains j) = true) (hjs1 : js1.all (fun j => vs1.contains j) = true) (hv : vs1.all (fun j => (own.map (·.2)).contains j) = true)
    (hs : ∀ x, foldedSetIterable iter X.env x = pure x := by intro _; rfl) (hs1 : ∀ env x, foldedSetIterable iter1 env x = pure x := by intro _ _; rfl) :
    DF (GK X ex) X W (.DictComp kx vx [⟨tg, iter, [], 0⟩, ⟨tg1, iter1, [], 0⟩] scope pos) (sDComp2 (own.map (·.2)) vs1 it g it1 g1 sk s) := by
  refine ⟨fun pins s0 σ H Q I h => ?_⟩
  rw [arm_eval_DictComp]
  have mem : ∀ {a b : List Nat}, a.all (fun j => b.contains j) = true → ∀ j ∈ a, j ∈ b := fun h j hj => by have w := List.all_eq_true.mp h j hj; simpa using w
  obtain ⟨ρ, F, Rv, io, rel, q⟩ := h
  have hI : tI (GK X ex) W it σ H fun J H1 => ∃ F1 ds ρ1 zs ρe, FLe F F1 ∧ Rel X.K io Rv ρ1 F1 σ H1 ∧ IterOk X.K J F1 ds ∧ plainAt ρ1 (own.map (·.2)) = true ∧ clGo (own.map (·.2)) g (innS vs1 it1 g1 (putS sk s)) ds ([], []) (wipeE ρ1 (own.map (·.2))) = .ok zs ρe ∧
      ∀ p H' F', FLe F F' → Rel X.K io Rv (backE ρ1 ρe (own.map (·.2))) F' σ H' → OwnAt X.K F' Rv H' p (.dct zs.1 zs.2) → Loose (backE ρ1 ρe (own.map (·.2))) σ p → Q (.ref p) H' := by
    refine ⟨ρ, F, Rv, io, rel, ?_⟩
    unfold sDComp2 at q
    cases e : it ρ with
    | stuck => rw [e] at q; exact q.elim
    | exc x ρ' => rw [e] at q; exact q
    | ok ds ρ1 =>
      rw [e, R.bind_ok] at q
      by_cases hp : plainAt ρ1 (own.map (·.2)) = true
      case neg => rw [if_neg hp] at q; exact q.elim
      rw [if_pos hp] at q
      cases e2 : clGo (own.map (·.2)) g (innS vs1 it1 g1 (putS sk s)) ds ([], []) (wipeE ρ1 (own.map (·.2))) with
      | stuck => rw [e2] at q; exact q.elim
      | exc x ρ' => rw [e2] at q; exact q.elim
      | ok zs ρe => rw [e2] at q; exact fun J H' F' a b c => ⟨F', ds, ρ1, zs, ρe, a, b, c, hp, e2, q⟩
  have hfree : ∀ y ∈ scope.names, y.2 = .free → ∃ c, X.env.cells.lookup y.1 = some c := fun y hy e => I.ok.has _ ((ok.free y hy e).elim .inl .inr)
  refine wpAny_comprehension_free (use := none) rfl hs (closure_ok hfree) ok.kind (fun y hy e => by rw [ok.uniq y hy, e]) (thn (hi.run pins s0 σ H _ I hI) fun xv s1 h1 => thn h1 fun itv s2 h2 => ?_)
  obtain ⟨I0, fp, tn, J, H2, e0, I2, T, st2, f2, F1, ds, ρ1, zs, ρe, le1, rel1, J1, hp, hgo, qq⟩ := h2
  subst e0
  refine wpAny_newObj_type (newEnv_comp ?_)
  generalize hD : s2.heap.objs.size = Dl
  have nD : H2 Dl = none := I2.hok.fresh (Nat.le_of_eq hD)
  have nR : Rv Dl = none := rel1.rH.noneOf nD
  generalize h3 : ({ s2 with heap := s2.heap.push { cls := .type "dict", data := .dict #[] } } : Shared) = s3
  have eh : s3.heap = s2.heap.push { cls := .type "dict", data := .dict #[] } := by rw [← h3]
  have I3 : Inv X pins σ (upd H2 Dl (.dK [])) s3 := by
    rw [← h3]; refine I2.laid (t' := s2.toks) (fun b o e => Heap.get?_push_of_some _ e) (Nat.le_of_eq hD) ?_
    rw [← hD]; exact dk_empty s2.heap I2.big
  have lt : ∀ b ∈ fp, b < s2.heap.objs.size := fun b hb => let ⟨_, e, _⟩ := T.obj _ _ st2 b hb; Heap.lt_size e
  have f3 : ∀ b ∈ fp, FpOk X pins (upd H2 Dl (.dK [])) b ∧ b < s3.heap.objs.size := fun b hb =>
    ⟨⟨by rw [upd_ne (by rw [← hD]; exact Nat.ne_of_lt (lt b hb))]; exact (f2 b hb).1, (f2 b hb).2⟩, by rw [eh, Heap.size_push]; exact Nat.lt_succ_of_lt (lt b hb)⟩
  have I4 := block_start I3 ok hu.nd f3
  have st3 : tn 0 s3.heap := T.keep _ _ _ st2 fun b _ o e => by rw [eh]; exact Heap.get?_push_of_some _ e
  have relS := (rel1.wiped hp).resAdd nD (.dK [])
  have pg := hg s3 (upd H2 Dl (.dK [])) s3.heap.objs.size (cellsFrom (s3.heap.objs.size + 1) scope.names (cloFrom X.env.cells scope.names [])) fp
  have pi1 := hi1 s3 (upd H2 Dl (.dK [])) s3.heap.objs.size (cellsFrom (s3.heap.objs.size + 1) scope.names (cloFrom X.env.cells scope.names [])) fp
  have pg1 := hg1 s3 (upd H2 Dl (.dK [])) s3.heap.objs.size (cellsFrom (s3.heap.objs.size + 1) scope.names (cloFrom X.env.cells scope.names [])) fp
  have pk := hk s3 (upd H2 Dl (.dK [])) s3.heap.objs.size (cellsFrom (s3.heap.objs.size + 1) scope.names (cloFrom X.env.cells scope.names [])) fp
  have pv := he s3 (upd H2 Dl (.dK [])) s3.heap.objs.size (cellsFrom (s3.heap.objs.size + 1) scope.names (cloFrom X.env.cells scope.names [])) fp
  show codeAny _ _ (.compStart (.DictComp kx vx [⟨tg, iter, [], 0⟩, ⟨tg1, iter1, [], 0⟩] scope pos) 0 (.ref I0) (.ref Dl) (compEnvC scope (cellsFrom (s3.heap.objs.size + 1) scope.names (cloFrom X.env.cells scope.names [])) s3.heap.objs.size X.env)) (compPost (model X.prog X.w) X.A X.xe none (EP X pins σ Q) (.ref Dl) s3.heap.objs.size) { s3 with heap := pushCells (s3.heap.push { cls := .type "dict", data := .dict #[] }) scope.names }
  generalize hce : compEnvC scope (cellsFrom (s3.heap.objs.size + 1) scope.names (cloFrom X.env.cells scope.names [])) s3.heap.objs.size X.env = ce at I4 pg pi1 pg1 pk pv ⊢
  have cL : ce.locals = s3.heap.objs.size := by subst hce; rfl
  generalize hH3 : upd H2 Dl (.dK []) = H3 at I3 I4 pg pi1 pg1 pk pv f3 relS
  generalize hs4 : ({ s3 with heap := pushCells (s3.heap.push { cls := .type "dict", data := .dict #[] }) scope.names } : Shared) = s4 at I4 ⊢
  have st4 : tn 0 s4.heap := T.keep _ _ _ st3 fun b _ o e => by rw [← hs4]; exact pushCells_keeps _ _ _ _ (Heap.get?_push_of_some _ e)
  have b1 : BodyOk (GK X ex) (X.blk s3 H3 scope ce fp) Dl vs1 _ (putS sk s) := body_put (place := { kx.pos with endLine := vx.pos.endLine, endCol := vx.pos.endCol }) rfl pk pv
  have b0 : BodyOk (GK X ex) (X.blk s3 H3 scope ce fp) Dl (own.map (·.2)) _ (innS vs1 it1 g1 (putS sk s)) := body_inner (kx := kx) (vx := vx) (tg := tg) (iter := iter) (scope := scope) (pos := pos) hu.calm rfl pi1 pg1 (mem hjs1) (mem hv) (hs1 _) b1 fun _ => rfl
  have loop : codeAny (model X.prog X.w) X.A (.compLoop (.DictComp kx vx [⟨tg, iter, [], 0⟩, ⟨tg1, iter1, [], 0⟩] scope pos) 0 (.ref I0) (.ref Dl) ce) (compPost (model X.prog X.w) X.A X.xe none (EP X pins σ Q) (.ref Dl) s3.heap.objs.size) s4 := by
    refine clause_loop (X := X.blk s3 H3 scope ce fp) (G := GK X ex) (pins := []) (kvs := []) (dn := []) (spos := iter.pos) hu.calm rfl rfl pg (mem hjs) b0 T wipe_twice
      (fun b hb H hn => ⟨hn, (I4.ok.exf b hb).1, I4.ok.exfs b hb, .inl hb, fun x c e => (I4.ok.exf b hb).2 x c e, fun p hp => absurd hp (by simp)⟩) J1 (fun s' H' kvs' F' I6 n6 le6 rel6 k6 r6 => ?_) I4 st4 (fun b hb => (f3 b hb).1.1) (FLe.refl F1) relS .nil hgo
    have I7 : Inv X pins σ H' s' := I3.call' (ch := fp) I6.os I6.base I6.hok I6.bare fun b hb => let ⟨_, a, _, c, d, e⟩ := (f3 b hb).1; ⟨c, a, d, e⟩
    have nC : H' s3.heap.objs.size = none := by have z : H' ce.locals = none := I6.free; rw [cL] at z; exact z
    obtain ⟨m, hn, _⟩ := I6.loc
    have hn : s'.heap.Ns ce.locals m := hn
    rw [cL] at hn
    obtain ⟨z0, z1, z2, z3, z4, z5⟩ : FpOk X pins H' s3.heap.objs.size := I3.fpOk (Nat.le_refl _) nC
    obtain ⟨relD, n1, n2, lo⟩ := rel6.resDrop nR
    have relB := rel1.back (vs := own.map (·.2)) relD le6 hp
    have fin : Q (.ref Dl) H' := by
      refine qq Dl H' F' (le1.trans le6) relB ⟨n1, nR, _, n2, kvs', rfl, k6, r6⟩ fun i c d e1 e2 e3 => ?_
      have hlen : ρ1.length = ρe.length := by rw [rel1.len, relD.len, wipe_length]
      rw [(backE_get hlen _).2] at e1
      by_cases hi : i ∈ own.map (·.2)
      · rw [if_pos hi] at e1; rcases plain_at hp hi e1 with z | ⟨_, z⟩ <;> (subst z; cases e2)
      · rw [if_neg hi] at e1; exact lo i c d e1 e2 (by rw [wipe_get, if_neg hi]; exact e3)
    exact ⟨m, hn, fun h'' sb => ⟨.ref Dl, H', I7.turned (t' := s'.toks) (fun b o hb e => (sb.2 b hb).trans e) z0 z1 z3 z4 z5, rfl, fin⟩⟩
  exact codeAny_compStart_dict loop (T.self X.A 0 _ _ _ st4 loop)
end Dt

set_option Elab.async false
set_option linter.all false
set_option maxRecDepth 100000
set_option maxHeartbeats 4000000
/-! Defs as values and their calls, calls without arguments, zip of two lists, a dict display, a tuple assigned whose first item is a new object. -/
namespace Dt
open PySem PySem.Spec PyProof.Rows L2
/-- the def at f keeps its promise -/
structure CalA (P : Program) (w : World) (K : PySem.W.Frag) (mg : Str → Option Value) (base : Heap) (f : Addr) (k : Nat) (sp : Sp) : Prop where
  there : ∃ fd ps, FnOk P w K mg base (L2N.CX P w) k f fd ps sp ∧ PySem.W.keepIn K (.ref f) = true ∧ Binds K fd ps []
theorem Cal.at_ {P : Program} {w : World} {K : PySem.W.Frag} {mg : Str → Option Value} {base : Heap} {x : Str} {j k : Nat} {sp : Sp} (C : Cal P w K mg base x j sp) (h : j ≤ k) (t : ∃ u, mg x = some u ∧ RelV (.ref (fnA K x)) u) : CalA P w K mg base (fnA K x) k sp := by
  obtain ⟨f, fd, ps, F, hm, hk, hb⟩ := C.there
  obtain ⟨u, e, r⟩ := t
  rw [hm] at e
  cases e
  have r : Value.ref f = Value.ref (fnA K x) := r
  cases r
  exact ⟨fd, ps, F.mono h, hk, hb⟩
abbrev FT := List (Str × Nat × (List D → FR))
def lookF : FT → Str → Option (Nat × (List D → FR))
  | [], _ => none
  | t :: r, x => if t.1 = x then some t.2 else lookF r x
theorem lookF_mem {L : FT} {x : Str} {z : Nat × (List D → FR)} (h : lookF L x = some z) : (x, z) ∈ L := by
  induction L with
  | nil => cases h
  | cons t r ih =>
    unfold lookF at h
    split at h
    · rename_i e; cases h; subst e; exact .head _
    · exact .tail _ (ih h)
def CalsA (G : Gx) (P : Program) (w : World) (mg : Str → Option Value) (base : Heap) (k : Nat) (L : FT) : Prop := ∀ t ∈ L, CalA P w G.K mg base (fnA G.K t.1) k (spP G t.2.1 t.2.2)
theorem ca_nil {G : Gx} {P : Program} {w : World} {mg : Str → Option Value} {base : Heap} {k : Nat} : CalsA G P w mg base k [] := fun _ h => nomatch h
theorem ca_cons {G : Gx} {P : Program} {w : World} {mg : Str → Option Value} {base : Heap} {k n : Nat} {x : Str} {g : List D → FR} {L : FT} (h : CalA P w G.K mg base (fnA G.K x) k (spP G n g)) (r : CalsA G P w mg base k L) : CalsA G P w mg base k ((x, n, g) :: L) := fun t ht => by
  rcases List.mem_cons.mp ht with rfl | ht
  · exact h
  · exact r t ht
section
variable {ex : Exx} {X : Cx} {W : WX} {e : Expr} {es : List Expr} {x : Str} {p pos : Pos} {k : Nat} {sA : SA}
/-- a def as a value -/
theorem callP_core {n : Nat} {g : List D → FR} {σ : L2.St} {H : Hp} {Q : VK} (h : tE (GK X ex) W (sCallP n g sA) σ H Q) : tA (GK X ex) W sA σ H fun vs H1 => spP (GK X ex) n g vs H1 Q (WE W σ) := by
  obtain ⟨ρ, F, Rv, io, rel, q⟩ := h
  refine ⟨ρ, F, Rv, io, rel, ?_⟩
  unfold sCallP at q
  cases e1 : sA ρ with
  | stuck => rw [e1] at q; exact q.elim
  | exc x ρ' => rw [e1] at q; exact q
  | ok ds ρ' =>
    rw [e1, R.bind_ok] at q
    intro vs H1 F1 le rel1 r
    by_cases hn : ds.length = n
    case neg => rw [if_neg hn] at q; exact q.elim
    rw [if_pos hn] at q
    refine ⟨ds, F1, restOf F1 H1 none, r.length.trans hn, restOf_apart rel1 none, r, ?_⟩
    cases e2 : g ds with
    | stuck => rw [e2] at q; exact q.elim
    | ok d o => rw [e2] at q; exact fun v H' F' le2 ap rp => q v H' F' (le.trans le2) (rel1.behind le2 ap) rp
    | exc x => rw [e2] at q; exact fun cls dd H' F' le2 ap xr => q cls dd σ H' F' (le.trans le2) (rel1.behind le2 ap) xr
/-- f(..) with f a variable -/
def sCallV (i : Nat) (L : FT) (s : SA) : SE := fun ρ => match ρ[i]? with
  | some (.fro (.fn nm)) => match lookF L nm with
    | some z => sCallP z.1 z.2 s ρ
    | none => .stuck
  | _ => .stuck
theorem d_callV {i : Nat} {L : FT} (hu : At X W) (hN : X.N[i]? = some x) (hv : Vis X.env.scope x) (C : CalsA (GK X ex) X.prog X.w X.mg X.base k L) (hr : Room k X.A) (ha : DA (GK X ex) X W (e :: es) sA)
    (hdb : (x == ("__debug__" : Str)) = false := by decide) (hcd : (x == ("__classdict__" : Str)) = false := by decide)
    (he : starEach (e :: es) X.env = (false, eval e X.env) :: starEach es X.env := by rfl) (hpl : (backTo pos (starEach es X.env)).any (·.1) = false := by rfl) : DE (GK X ex) X W (.Call (.Name x p) (e :: es) [] pos) (sCallV i L sA) := by
  refine ⟨fun pins s σ H Q I h => ?_⟩
  obtain ⟨ρ, F, Rv, io, rel, q⟩ := h
  unfold sCallV at q
  obtain ⟨nm, e1⟩ : ∃ nm, ρ[i]? = some (.fro (.fn nm)) := by
    cases e1 : ρ[i]? with
    | none => rw [e1] at q; exact q.elim
    | some c =>
      rw [e1] at q
      cases c with
      | fro d => cases d with
        | fn nm => exact ⟨nm, rfl⟩
        | _ => exact q.elim
      | _ => exact q.elim
  rw [e1] at q
  have q : match (match lookF L nm with | some z => sCallP z.1 z.2 sA ρ | none => .stuck : R D) with | .ok d ρ' => EPost (GK X ex) io Rv F σ ρ' d Q | .exc x ρ' => XPost (GK X ex) W io Rv F ρ' x | .stuck => False := q
  cases e2 : lookF L nm with
  | none => rw [e2] at q; exact q.elim
  | some z =>
    rw [e2] at q
    obtain ⟨v, es1, ok⟩ := rel.slot e1
    obtain ⟨y, rfl, rp⟩ := ok
    cases rp
    obtain ⟨fd, ps, FF, hk, hb⟩ := (C _ (lookF_mem e2)).there
    refine wpAny_Call_Name_kw (thn ((pe_var (pos := p) hN hv hdb hcd).run pins s σ H (fun v H1 => v = .ref (fnA X.K nm) ∧ H1 = H) I ⟨_, es1, rfl, rfl⟩) fun u s1 ⟨v, H1, I1, r1, q1⟩ => ?_)
    obtain ⟨rfl, rfl⟩ := q1
    cases r1
    refine PySem.W.callWith_K (h₀ := X.base) I.ok.mod.kin hk (thn (ha.run pos pins s1 σ _ _ I1 (callP_core ⟨ρ, F, Rv, io, rel, q⟩)) fun us s2 ⟨vs, H2, I2, r, q⟩ => ⟨I2.kIn, ?_⟩) he hpl
    exact run_fnS FF hr hb (L2N.passAt hu.tk σ) I2 r q
/-- f() -/
theorem d_call0 {g : List D → FR} (hu : At X W) (C : Cal X.prog X.w X.K X.mg X.base x k (spP (GK X ex) 0 g)) (hr : Room k X.A) (hg : Gl X x) (hdb : (x == ("__debug__" : Str)) = false := by decide) : DE (GK X ex) X W (.Call (.Name x p) [] [] pos) (sCallP 0 g sNil) := by
  refine ⟨fun pins s σ H Q I h => ?_⟩
  obtain ⟨f, fd, ps, F, hm, hk, hb⟩ := C.there
  refine wpAny_Call_Name_kw (ld_glob I hg hm (PySem.W.callWith_K0 I.kIn hk (run_fnS (us := []) F hr hb (L2N.passAt hu.tk σ) I .nil ?_)) hdb)
  obtain ⟨ρ, F1, Rv, io, rel, q⟩ := callP_core h
  exact q [] H F1 (FLe.refl _) rel .nil
/-! ### zip(a, b) of two lists -/
def pairUp (xs ys : List D) : List D := List.zipWith (fun x y => .arg [x, y]) xs ys
theorem iter_zip {K : PySem.W.Frag} {F : Hp} {a b : Addr} {vs ws : List V} {xs ys : List D} (ha : F a = some (.lst vs)) (hb : F b = some (.lst ws)) (rx : Rps K F vs xs) (ry : Rps K F ws ys) : IterOk K (Itz K a b) F (pairUp xs ys) := by
  have at1 : ∀ {F1 H : Hp}, FLe F F1 → FLe F1 H → SqL K H a vs := fun h1 h2 => SqL.of (h2 _ _ (h1 _ _ ha))
  have at2 : ∀ {F1 H : Hp}, FLe F F1 → FLe F1 H → SqL K H b ws := fun h1 h2 => SqL.of (h2 _ _ (h1 _ _ hb))
  have lx := rx.length
  have ly := ry.length
  refine ⟨fun i F1 H h1 h2 hi => ?_, fun F1 H h1 h2 => ⟨vs, ws, at1 h1 h2, at2 h1 h2, ?_⟩, fun i F1 H H' x d h1 h2 e y => ?_⟩
  · unfold pairUp at hi
    rw [List.length_zipWith] at hi
    exact ⟨vs, ws, vs[i]'(by omega), ws[i]'(by omega), at1 h1 h2, at2 h1 h2, by simp [show i < vs.length by omega], by simp [show i < ws.length by omega]⟩
  · unfold pairUp
    rw [List.length_zipWith]
    omega
  · obtain ⟨T, v, w, rfl, hT, rfl, g1, g2⟩ := y
    unfold pairUp at e
    rw [List.getElem?_zipWith] at e
    cases ex : xs[i]? with
    | none => rw [ex] at e; cases e
    | some dx =>
      cases ey : ys[i]? with
      | none => rw [ex, ey] at e; cases e
      | some dy =>
        rw [ex, ey] at e
        cases e
        obtain ⟨v', e1, r1⟩ := rx.get ex
        obtain ⟨w', e2, r2⟩ := ry.get ey
        have e3 := g1 vs (at1 h1 h2)
        have e4 := g2 ws (at2 h1 h2)
        rw [e1] at e3; cases e3
        rw [e2] at e4; cases e4
        have n := New.obj h2 hT (.tup [v, w])
        exact ⟨_, n, .arg (.inl (.inl upd_same)) (.cons (r1.mono (h1.trans n.f)) (.cons (r2.mono (h1.trans n.f)) .nil))⟩
def zipD : List D → Option (List D)
  | [.lst xs, .lst ys] => some (pairUp xs ys)
  | _ => none
theorem zipD_some {ds zs : List D} (h : zipD ds = some zs) : ∃ xs ys, ds = [.lst xs, .lst ys] ∧ zs = pairUp xs ys := by
  unfold zipD at h
  split at h
  · cases h; exact ⟨_, _, rfl, rfl⟩
  · cases h
def iZipS (s : SA) : SA := fun ρ => (s ρ).bind fun ds ρ' => ofO (zipD ds) ρ'
@[simp] theorem ev_iZip (s : SA) (ρ : Env) : iZipS s ρ = (s ρ).bind fun ds ρ' => ofO (zipD ds) ρ' := rfl
theorem d_iZip {e2 : Expr} {elts : List Expr} {kk : Nat} {tpos : Pos} (hg : Gl X "zip") (hm : X.mg "zip" = none) (ha : DA (GK X ex) X W [e, e2] sA) (hs : starEach [e, e2] X.env = (false, eval e X.env) :: starEach [e2] X.env := by rfl) (hpl : (backTo pos (starEach [e2] X.env)).any (·.1) = false := by rfl) :
    DI (GK X ex) X W (.Tuple elts kk tpos) (.Call (.Name "zip" p) [e, e2] [] pos) (iZipS sA) :=
  wkI (pi_zip hg hm ha hs hpl) fun σ H Q ⟨ρ, F, Rv, io, rel, q⟩ => by
    refine ⟨ρ, F, Rv, io, rel, ?_⟩
    unfold iZipS at q
    cases e1 : sA ρ with
    | stuck => rw [e1] at q; exact q.elim
    | exc x ρ' => rw [e1] at q; exact q
    | ok ds ρ' =>
      rw [e1, R.bind_ok] at q
      intro vs H' F' le rel' rs
      cases e3 : zipD ds with
      | none => rw [e3] at q; exact q.elim
      | some zs =>
        rw [e3] at q
        obtain ⟨xs, ys, rfl, rfl⟩ := zipD_some e3
        obtain ⟨v1, v2, rfl, r1, r2⟩ : ∃ v1 v2, vs = [v1, v2] ∧ Rp X.K F' v1 (.lst xs) ∧ Rp X.K F' v2 (.lst ys) := by
          cases rs with
          | cons r1 rs =>
            cases rs with
            | cons r2 rs => cases rs; exact ⟨_, _, rfl, r1, r2⟩
        obtain ⟨a, vs, rfl, t1, q1⟩ : ∃ a vs, v1 = .ref a ∧ F' a = some (.lst vs) ∧ Rps X.K F' vs xs := by cases r1; exact ⟨_, _, rfl, by assumption, by assumption⟩
        obtain ⟨b, ws, rfl, t2, q2⟩ : ∃ a vs, v2 = .ref a ∧ F' a = some (.lst vs) ∧ Rps X.K F' vs ys := by cases r2; exact ⟨_, _, rfl, by assumption, by assumption⟩
        exact ⟨a, b, vs, ws, rfl, SqL.of (rel'.fH _ _ t1), SqL.of (rel'.fH _ _ t2), q _ H' F' le rel' (iter_zip t1 t2 q1 q2)⟩
/-! ### {k: v, ..} -/
def sPairs : List (SE × SE) → Env → R (List (Key × D))
  | [], ρ => .ok [] ρ
  | t :: r, ρ => (t.1 ρ).bind fun kd ρ1 => (t.2 ρ1).bind fun d ρ2 => match keyOf kd with
    | none => .stuck
    | some k => (sPairs r ρ2).bind fun l ρ3 => .ok ((k, d) :: l) ρ3
def putAll (l : List (Key × D)) (acc : List Key × List D) : List Key × List D := l.foldl (fun acc kd => dPut acc.1 acc.2 kd.1 kd.2) acc
def sDisp (l : List (SE × SE)) : SE := fun ρ => (noX (sPairs l ρ)).bind fun l ρ' => if l.length ≤ 15 then .ok (.dct (putAll l ([], [])).1 (putAll l ([], [])).2) ρ' else .stuck
@[simp] theorem ev_pairs0 (ρ : Env) : sPairs [] ρ = .ok [] ρ := rfl
@[simp] theorem ev_pairs1 (t : SE × SE) (r : List (SE × SE)) (ρ : Env) : sPairs (t :: r) ρ = (t.1 ρ).bind fun kd ρ1 => (t.2 ρ1).bind fun d ρ2 => match keyOf kd with
    | none => .stuck
    | some k => (sPairs r ρ2).bind fun l ρ3 => .ok ((k, d) :: l) ρ3 := rfl
@[simp] theorem ev_disp (l : List (SE × SE)) (ρ : Env) : sDisp l ρ = (noX (sPairs l ρ)).bind fun l ρ' => if l.length ≤ 15 then .ok (.dct (putAll l ([], [])).1 (putAll l ([], [])).2) ρ' else .stuck := rfl
theorem pairs_core {G : Gx} {io : Io G.ex.tabs} {Rv : Hp} {σ : L2.St} : ∀ {l : List (SE × SE)} {ρ ρ' : Env} {F H : Hp} {kds : List (Key × D)} {Q : List (V × V) → Hp → Prop}, Rel G.K io Rv ρ F σ H → sPairs l ρ = .ok kds ρ' →
    (∀ (kvs : List (Key × V)) (H' F' : Hp), FLe F F' → Rel G.K io Rv ρ' F' σ H' → kvs.map (·.1) = kds.map (·.1) → Rps G.K F' (kvs.map (·.2)) (kds.map (·.2)) → Q (kvs.map fun kv => (kV kv.1, kv.2)) H') → tPairs (l.map fun t => (tE G W t.1, tE G W t.2)) σ H Q
  | [], ρ, ρ', F, H, kds, Q, rel, e, q => by
    cases e
    exact q [] H F (FLe.refl F) rel rfl .nil
  | t :: r, ρ, ρ', F, H, kds, Q, rel, e, q => by
    rw [ev_pairs1] at e
    refine ⟨ρ, F, Rv, io, rel, ?_⟩
    cases e1 : t.1 ρ with
    | stuck => rw [e1] at e; cases e
    | exc x ρ1 => rw [e1] at e; cases e
    | ok kd ρ1 =>
      rw [e1, R.bind_ok] at e
      intro x H1 F1 le1 rel1 rp1
      refine ⟨ρ1, F1, Rv, io, rel1, ?_⟩
      cases e2 : t.2 ρ1 with
      | stuck => rw [e2] at e; cases e
      | exc x ρ1 => rw [e2] at e; cases e
      | ok d ρ2 =>
        rw [e2, R.bind_ok] at e
        cases e3 : keyOf kd with
        | none => rw [e3] at e; cases e
        | some key =>
          rw [e3] at e
          intro y H2 F2 le2 rel2 rp2
          have ek := keyOf_vw (H := H1) (.inl rp1) e3
          subst ek
          cases e4 : sPairs r ρ2 with
          | stuck => rw [e4] at e; cases e
          | exc x ρ1 => rw [e4] at e; cases e
          | ok l4 ρ4 =>
            rw [e4] at e
            cases e
            exact pairs_core rel2 e4 fun kvs H' F' le rel' k' r' => q ((key, y) :: kvs) H' F' ((le1.trans le2).trans le) rel' (by simp [k']) (.cons (rp2.mono le) r')
theorem merge_put {K : PySem.W.Frag} {F : Hp} : ∀ {kds : List (Key × D)} {kvs acc : List (Key × V)} {da : List D}, kvs.map (·.1) = kds.map (·.1) → Rps K F (kvs.map (·.2)) (kds.map (·.2)) → Rps K F (acc.map (·.2)) da →
    (mergeK acc kvs).map (·.1) = (putAll kds (acc.map (·.1), da)).1 ∧ Rps K F ((mergeK acc kvs).map (·.2)) (putAll kds (acc.map (·.1), da)).2
  | [], [], acc, da, _, _, ra => ⟨rfl, ra⟩
  | [], _ :: _, _, _, e, _, _ => by simp at e
  | _ :: _, [], _, _, e, _, _ => by simp at e
  | kd :: kds, kv :: kvs, acc, da, e, r, ra => by
    rw [List.map_cons, List.map_cons] at e
    obtain ⟨e1, e2⟩ := List.cons.inj e
    cases r with
    | cons r1 r2 =>
      obtain ⟨k1, k2⟩ := dPut_put (k := kv.1) r1 ra
      obtain ⟨h1, h2⟩ := merge_put (acc := putK acc kv.1 kv.2) e2 r2 k2
      have e3 : putAll (kd :: kds) (acc.map (·.1), da) = putAll kds ((putK acc kv.1 kv.2).map (·.1), (dPut (acc.map (·.1)) da kv.1 kd.2).2) := by
        show putAll kds (dPut (acc.map (·.1)) da kd.1 kd.2) = _
        have k1' : (putK acc kv.1 kv.2).map (·.1) = (dPut (acc.map (·.1)) da kv.1 kd.2).1 := k1
        rw [← e1, k1']
      rw [e3]
      exact ⟨h1, h2⟩
theorem d_dispF {keys : List (Option Expr)} {values : List Expr} {l : List (SE × SE)} (h : PPs X pos keys values (l.map fun t => (tE (GK X ex) W t.1, tE (GK X ex) W t.2))) (hall : keys.all (·.isSome) = true := by rfl) (hl : keys.length = values.length := by rfl) (h0 : keys ≠ [] := by simp)
    (h15 : keys.length ≤ 15 := by decide) : DF (GK X ex) X W (.Dict keys values pos) (sDisp l) := wkE (pe_disp h hall hl h0 h15) fun σ H Q ⟨ρ, F, Rv, io, rel, q⟩ => by
  rw [ev_disp] at q
  intro p hp
  cases e : sPairs l ρ with
  | stuck => rw [e] at q; exact q.elim
  | exc x ρ' => rw [e] at q; exact q.elim
  | ok kds ρ' =>
    rw [e] at q
    have q : match (if kds.length ≤ 15 then R.ok (.dct (putAll kds ([], [])).1 (putAll kds ([], [])).2) ρ' else .stuck : R D) with | .ok d ρ' => ∀ p H' F', FLe F F' → Rel X.K io Rv ρ' F' σ H' → OwnAt X.K F' Rv H' p d → Loose ρ' σ p → Q (.ref p) H' | .exc x ρ' => XPost (GK X ex) W io Rv F ρ' x | .stuck => False := q
    by_cases h5 : kds.length ≤ 15
    case neg => rw [if_neg h5] at q; exact q.elim
    rw [if_pos h5] at q
    have nR : Rv p = none := rel.rH.noneOf hp
    refine pairs_core (rel.resAdd hp (.dK [])) e fun kvs H2 F2 le rel2 k2 r2 => ⟨rel2.rH p _ upd_same, kvs, rfl, ?_, ?_⟩
    · have := congrArg List.length k2
      rw [List.length_map, List.length_map] at this
      omega
    · obtain ⟨relD, n1, n2, lo⟩ := (rel2.resPut (o' := .dK (mergeK [] kvs))).resDrop nR
      obtain ⟨m1, m2⟩ := merge_put (acc := []) k2 r2 .nil
      exact q p _ F2 le relD ⟨n1, nR, _, n2, _, rfl, m1, m2⟩ lo
/-! ### a, b, .. = [..], x, ..: the first is a new object -/
theorem Rel.keep {K : PySem.W.Frag} {T : List (Addr × Str)} {io : Io T} {Rv F : Hp} {ρ : Env} {σ : L2.St} {H : Hp} (r : Rel K io Rv ρ F σ H) {p : Addr} {o : HO} {d : D} (e : H p = some o) (ob : OwnObj K F p o d) (nF : F p = none) (lo : Loose ρ σ p) : Rel K io (L2.upd Rv p o) ρ F σ H := by
  refine ⟨r.fH, fun a u h => ?_, fun a u h => ?_, r.len, fun i c v e1 e2 => ?_, r.inj, r.ios, r.ioc, fun t ht => let q := r.tab t ht; let ⟨ps, ep⟩ := q.tbl; q.mv q.1 (by rw [upd_ne (own_ne (R := fun _ => none) ⟨nF, rfl, o, e, ob⟩ ep)]; exact q.2.1) (fun _ e => e) (FLe.refl F) (q.nR.upd (ob.nt default).1 ob.nx), r.nt⟩
  · by_cases z : a = p
    · subst z; rw [upd_same] at h; cases h; exact e
    · rw [upd_ne z] at h; exact r.rH a u h
  · rw [upd_ne (fun z => by subst z; rw [nF] at h; cases h)]
    exact r.dj a u h
  · have q := r.cell i c v e1 e2
    have own : ∀ {p' d}, v = some (.ref p') → c.held = some d → OwnAt K F Rv H p' d → OwnAt K F (L2.upd Rv p o) H p' d := fun {p' d} hv hh w =>
      ⟨w.nF, by rw [upd_ne (fun z => lo i c d e1 hh (by subst z; subst hv; exact e2))]; exact w.nR, w.at_⟩
    cases c with
    | no => trivial
    | fro d => exact q
    | own d => obtain ⟨p', e3, w⟩ := q; exact ⟨p', e3, own e3 rfl w⟩
    | io d => obtain ⟨p', e3, w⟩ := q; exact ⟨p', e3, own e3 rfl w⟩
def sAsgF (i n : Nat) (sF : SE) (s : SA) (gs : SGs) : SS := fun ρ => (sF ρ).bind fun d ρ1 => (s ρ1).bind fun ds ρ2 => if ds.length + 1 = n ∧ n ≤ 100 then (gOwn i d ρ2).bind fun _ ρ3 => (gs ds ρ3).bind fun _ ρ4 => .ok .nx ρ4 else .stuck
@[simp] theorem ev_asgF (i n : Nat) (sF : SE) (s : SA) (gs : SGs) (ρ : Env) : sAsgF i n sF s gs ρ = (sF ρ).bind fun d ρ1 => (s ρ1).bind fun ds ρ2 => if ds.length + 1 = n ∧ n ≤ 100 then (gOwn i d ρ2).bind fun _ ρ3 => (gs ds ρ3).bind fun _ ρ4 => .ok .nx ρ4 else .stuck := rfl
theorem d_asgF {i n kk k2 : Nat} {tp vp np : Pos} {ts : List Expr} {sF : SE} {gs : SGs} {js : List Nat} (hu : At X W) (hi : X.N[i]? = some x) (hx : Loc X.env.scope x) (hf : DF (GK X ex) X W e sF) (ha : DA (GK X ex) X W es sA) (hg : DGs (GK X ex) X W js ts gs)
    (he : starEach (e :: es) X.env = (false, eval e X.env) :: starEach es X.env := by rfl) (hn : (assignEach (.Name x np :: ts) X.env).length = n := by rfl) (hst : (assignEach (.Name x np :: ts) X.env).findIdx? (·.1) = none := by rfl)
    (ht : (assignEach (.Name x np :: ts) X.env).map (·.2) = assign (.Name x np) X.env :: (assignEach ts X.env).map (·.2) := by rfl) (hff : X.fn x = true ∨ X.env.scope.names.lookup x = some .local := by first | exact .inl rfl | exact .inr rfl | assumption)
    (hs : swapsWithSole [.Tuple (.Name x np :: ts) kk tp] (.Tuple (e :: es) k2 vp) pos.line X.env = pure false := by rfl) (hw : swappedStores [.Tuple (.Name x np :: ts) kk tp] (.Tuple (e :: es) k2 vp) X.env = pure none := by rfl)
    (h1 : (assignEach [.Tuple (.Name x np :: ts) kk tp] X.env).map (·.2) = [assign (.Tuple (.Name x np :: ts) kk tp) X.env] := by rfl) :
    DS (GK X ex) X W (.Assign [.Tuple (.Name x np :: ts) kk tp] (.Tuple (e :: es) k2 vp) pos) (sAsgF i n sF sA gs) :=
  wkS (ps_asg (pe_tupZ (pa_cons hf ha he)) (pg_tup hu.calm (pgs_cons (pg_name hu.nd hi hx hff) hg ht) hn hst) hs hw h1) fun D σ H ⟨ρ, F, Rv, io, rel, q⟩ => by
    rw [ev_asgF] at q
    refine ⟨ρ, F, Rv, io, rel, ?_⟩
    cases e1 : sF ρ with
    | stuck => rw [e1] at q; exact q.elim
    | exc x ρ1 => rw [e1] at q; exact q
    | ok d ρ1 =>
      rw [e1, R.bind_ok] at q
      intro p H1 F1 le1 rel1 ow lo
      obtain ⟨o, ho, oo⟩ := ow.at_
      refine ⟨ρ1, F1, _, io, rel1.keep ho oo ow.nF lo, ?_⟩
      cases e2 : sA ρ1 with
      | stuck => rw [e2] at q; exact q.elim
      | exc x ρ2 => rw [e2] at q; exact fun cls dd σ' H' F' le rel' xr => q cls dd σ' H' F' (le1.trans le) (rel'.resDrop ow.nR).1 xr
      | ok ds ρ2 =>
        rw [e2, R.bind_ok] at q
        intro vs H2 F2 le2 rel2 rs
        obtain ⟨relD, n1, n2, lo2⟩ := rel2.resDrop ow.nR
        by_cases hl : ds.length + 1 = n ∧ n ≤ 100
        case neg => rw [if_neg hl] at q; exact q.elim
        rw [if_pos hl] at q
        have lv := rs.length
        refine ⟨line_pos (by rw [List.length_cons]; omega), fun t ob ht' hod => ⟨t, V.ref p :: vs, rfl, .inl (.inr ⟨ob, upd_same⟩), by rw [List.length_cons]; omega, V.ref p, vs, rfl, ?_⟩⟩
        cases e3 : gOwn i d ρ2 with
        | stuck => rw [e3] at q; exact q.elim
        | exc x ρ3 => unfold gOwn at e3; split at e3 <;> cases e3
        | ok u ρ3 =>
          rw [e3, R.bind_ok] at q
          obtain ⟨hio, rfl⟩ := gOwn_ok e3
          have relT := relD.newH ht' (.frz ob (.tup (V.ref p :: vs)))
          have pt : p ≠ t := fun z => by subst z; rw [n2] at ht'; cases ht'
          have relS := relT.setOwn (i := i) (p := p) (d := d) ⟨n1, ow.nR, o, by rw [upd_ne pt]; exact n2, oo.mono le2⟩ lo2 hio
          show tGs (GK X ex) W js gs vs (σ.set i (some (.ref p))) _ _
          refine ⟨ds, ρ2.set i (.own d), F2, Rv, io, relS, rs, ?_⟩
          cases e4 : gs ds (ρ2.set i (.own d)) with
          | stuck => rw [e4] at q; exact q.elim
          | exc x ρ4 => rw [e4] at q; exact XPost.le q (le1.trans le2)
          | ok u ρ4 => rw [e4] at q; exact fun σ' H' F' le rel' _ => q σ' H' F' ((le1.trans le2).trans le) rel'
end
end Dt

set_option Elab.async false
set_option linter.all false
set_option maxRecDepth 100000
set_option maxHeartbeats 4000000
/-! Tuples of the module, d.update(e), sorted texts, zip of two tuples. -/
namespace Dt
open PySem PySem.Spec PyProof.Rows L2 RZ
section
variable {ex : Exx} {X : Cx} {W : WX} {e o : Expr} {es : List Expr} {x : Str} {p pos : Pos} {sA : SA} {ea : SE}
/-- a tuple of the module -/
theorem d_globT {vs : List V} {ds : List D} (hg : Gl X x) (hm : ∃ a, X.mg x = some (.ref a) ∧ ∀ F, SqT X.K F a vs) (rp : ∀ F, Rps X.K F vs ds) (hd : (x == ("__debug__" : Str)) = false := by decide) : DE (GK X ex) X W (.Name x p) (sCst (.arg ds)) :=
  let ⟨a, h1, h2⟩ := hm
  d_glob (v := .ref a) hg ⟨_, h1, rfl⟩ (fun F => .arg (h2 F) (rp F)) hd
/-! ### d.update(e) -/
def rDUpd : V → List V → Hp → VK → Prop := fun x xs H Q => ∃ (a b : Addr) (kvs more : List (Key × V)), x = .ref a ∧ xs = [.ref b] ∧ a ≠ b ∧ H a = some (.dK kvs) ∧ Rd H b (.dK more) ∧ kvs.length + more.length ≤ sizeLine ∧ Q .non (L2.upd H a (.dK (mergeK kvs more)))
theorem mt_dupd : MtR X "dict.update" rDUpd := by
  intro pins s σ H x xs v us Q I rx rv ⟨a, b, kvs, more, ex, exs, ne, ha, hb, hz, q⟩
  subst ex exs
  cases rx
  obtain ⟨u, rfl, ru⟩ := rv.one
  cases ru
  obtain ⟨z1, s1, vs, r1, d1⟩ := dk_of I.hok ha
  obtain ⟨z2, s2, ws, r2, d2⟩ := dk_rd I.hok hb
  refine call_meetsIn PySem.F.slot_dict_update d1.typeIs PySem.F.entry_dict_update (PySem.F.args_dict_update_2 _ _) (meets_dict_update (mixKind X.prog X.w) a b ne s2) ⟨vs, ws, d1, d2, by rw [← r1.length, ← r2.length]; exact hz, fun h' dd _ hs => ?_⟩
  refine ⟨.non, _, d_write (t' := s.toks) I (by rw [ha]; exact True.intro) hs (let ⟨q, _, _, hq, _⟩ := dd; ⟨q, hq⟩) (dk_new (Nat.le_trans (length_mergeK more kvs) hz) s1 (r2.merge r1) dd), rfl, q⟩
def dctOf : Option D → Option (List Key × List D)
  | some (.dct ks ds) => some (ks, ds)
  | _ => none
theorem dctOf_some {o : Option D} {z : List Key × List D} (h : dctOf o = some z) : o = some (.dct z.1 z.2) := by
  unfold dctOf at h
  split at h
  · cases h; rfl
  · cases h
/-- the variable at i is a dict of its own; what is put in is a dict that is data -/
def sDUpd (i : Nat) (s : SE) : SE := fun ρ => match dctOf (held ρ i) with
  | none => .stuck
  | some _ => (s ρ).bind fun d ρ' => match dctOf (held ρ' i), dctOf (some d) with
    | some a, some b => if a.1.length + b.1.length ≤ sizeLine then .ok .non (put ρ' i (.dct (putAll (b.1.zip b.2) a).1 (putAll (b.1.zip b.2) a).2)) else .stuck
    | _, _ => .stuck
@[simp] theorem ev_dupd (i : Nat) (s : SE) (ρ : Env) : sDUpd i s ρ = match dctOf (held ρ i) with
  | none => .stuck
  | some _ => (s ρ).bind fun d ρ' => match dctOf (held ρ' i), dctOf (some d) with
    | some a, some b => if a.1.length + b.1.length ≤ sizeLine then .ok .non (put ρ' i (.dct (putAll (b.1.zip b.2) a).1 (putAll (b.1.zip b.2) a).2)) else .stuck
    | _, _ => .stuck := rfl
@[simp] theorem dctOf_dct (ks : List Key) (ds : List D) : dctOf (some (.dct ks ds)) = some (ks, ds) := rfl
theorem dupd_core {i : Nat} {σ : L2.St} {H : Hp} {Q : VK} (h : tE (GK X ex) W (sDUpd i ea) σ H Q) : tBM X.K "dict" rDUpd (tVar i) (tA (GK X ex) W (sCons ea sNil)) σ H Q := by
  obtain ⟨ρ, F, Rv, io, rel, q⟩ := h
  rw [ev_dupd] at q
  cases e1 : dctOf (held ρ i) with
  | none => rw [e1] at q; exact q.elim
  | some z0 =>
    rw [e1] at q
    obtain ⟨p, ob, e2, e3, e4, _⟩ := put_own (G := GK X ex) (d' := .dct z0.1 z0.2) rel (dctOf_some e1)
    obtain ⟨kvs0, rfl, _, _⟩ := e4
    refine ⟨_, e2, .inr (.inr (.inl ⟨rfl, .inl ⟨_, e3⟩⟩)), ρ, F, Rv, io, rel, ?_⟩
    unfold sCons
    cases e5 : ea ρ with
    | stuck => rw [e5] at q; exact q.elim
    | exc x ρ' => rw [e5] at q; exact q
    | ok d ρ' =>
      rw [e5] at q
      rw [R.bind_ok] at q ⊢
      intro xs H' F' le rel' rx
      cases e6 : dctOf (held ρ' i) with
      | none => rw [e6] at q; exact q.elim
      | some a =>
        cases e7 : dctOf (some d) with
        | none => rw [e6, e7] at q; exact q.elim
        | some b =>
          rw [e6, e7] at q
          have q : match (if a.1.length + b.1.length ≤ sizeLine then R.ok .non (put ρ' i (.dct (putAll (b.1.zip b.2) a).1 (putAll (b.1.zip b.2) a).2)) else .stuck : R D) with | .ok d ρ' => EPost (GK X ex) io Rv F σ ρ' d Q | .exc x ρ' => XPost (GK X ex) W io Rv F ρ' x | .stuck => False := q
          by_cases hz : a.1.length + b.1.length ≤ sizeLine
          case neg => rw [if_neg hz] at q; exact q.elim
          rw [if_pos hz] at q
          obtain rfl := Option.some.inj (dctOf_some e7)
          obtain ⟨p', ob', e9, e10, e11, e12⟩ := put_own (G := GK X ex) (d' := .dct (putAll (b.1.zip b.2) a).1 (putAll (b.1.zip b.2) a).2) rel' (dctOf_some e6)
          rw [e2] at e9
          cases e9
          obtain ⟨kvs, rfl, k1, r1⟩ := e11
          cases rx with
          | @cons rvv _ _ _ rv rs =>
            cases rs
            obtain ⟨b1, kvs2, od, rfl, hb, k2, r2⟩ : ∃ (b1 : Addr) (kvs2 : List (Key × V)) (od : Obj), rvv = V.ref b1 ∧ F' b1 = some (.frz od (.dK kvs2)) ∧ kvs2.map (·.1) = b.1 ∧ Rps X.K F' (kvs2.map (·.2)) b.2 := by
              obtain ⟨bk, bd⟩ := b
              generalize hd : D.dct bk bd = dd at rv
              cases rv with
              | dct t r => cases hd; exact ⟨_, _, _, rfl, t, rfl, r⟩
              | _ => cases hd
            have ne : p ≠ b1 := fun z => by subst z; rw [rel'.fH _ _ hb] at e10; cases e10
            have l1 : kvs.length = a.1.length := by rw [← k1, List.length_map]
            have l2 : kvs2.length = b.1.length := by rw [← k2, List.length_map]
            have lb : b.2.length = b.1.length := by have := r2.length; rw [List.length_map] at this; omega
            refine ⟨p, b1, kvs, kvs2, rfl, rfl, ne, e10, .inr ⟨_, rel'.fH _ _ hb⟩, by rw [l1, l2]; exact hz, q _ _ F' le (e12 _ ⟨_, rfl, ?_⟩) .non⟩
            have m := merge_put (K := X.K) (F := F') (kds := b.1.zip b.2) (kvs := kvs2) (acc := kvs) (da := a.2) (by rw [List.map_fst_zip (Nat.le_of_eq lb.symm)]; exact k2) (by rw [List.map_snd_zip (Nat.le_of_eq lb)]; exact r2) r1
            rw [k1] at m
            exact m
theorem d_dupd {i : Nat} {apos cpos : Pos} (ho : PE X o (tVar i)) (ha : DE (GK X ex) X W e ea) (hbase : attributeBase o "update" X.env (eval o X.env) = eval o X.env := by rfl)
    (hfew : ((backTo cpos (starEach (e :: []) X.env)).all (fun x => !x.1) && (backToKw cpos (keywordEach [] X.env)).all (fun x => x.1.isSome)
      && decide ((e :: ([] : List Expr)).length + ([] : List Keyword).length + (if ([] : List Keyword).isEmpty then 0 else 1) < 30)) = true := by rfl)
    (hline : (apos.endLine == cpos.line) = true := by rfl) (hs : starEach (e :: []) X.env = (false, eval e X.env) :: starEach [] X.env := by rfl) (hplain : (backTo cpos (starEach [] X.env)).any (·.1) = false := by rfl) :
    DE (GK X ex) X W (.Call (.Attribute o "update" apos) (e :: []) [] cpos) (sDUpd i ea) :=
  wkE (pe_bm PySem.F.plainAttrs_dict PySem.F.slot_dict_update PySem.F.type_dict_update mt_dupd ho (d_cons ha d_nil hs) hbase hfew hline hs hplain) fun σ H Q h => dupd_core h
/-! ### sorted(xs), texts that stand in order -/
def strsOf : List D → Option (List Str)
  | [] => some []
  | .str z :: ds => (strsOf ds).map fun r => z :: r
  | _ => none
def rises : List Str → Bool
  | x :: y :: r => sLt x y && rises (y :: r)
  | _ => true
def gSorted : List D → Option D
  | [.lst ds] => (strsOf ds).bind fun xs => if xs.length < 64 ∧ rises xs = true then some (.lst ds) else none
  | _ => none
theorem strs_vw {K : PySem.W.Frag} {F : Hp} : ∀ {vs : List V} {ds : List D} {xs : List Str}, Rps K F vs ds → strsOf ds = some xs → vs = xs.map V.str
  | _, _, _, .nil, e => by cases e; rfl
  | _, _, _, .cons (d := d) (ds := ds) a b, e => by
    cases a with
    | str z =>
      simp only [strsOf] at e
      cases e1 : strsOf ds with
      | none => rw [e1] at e; cases e
      | some r => rw [e1] at e; cases e; rw [strs_vw b e1]; rfl
    | _ => simp only [strsOf] at e; cases e
theorem rises_all : ∀ {x : Str} {r : List Str}, rises (x :: r) = true → ∀ y ∈ r, x.cps.toList < y.cps.toList
  | x, y :: r, h, z, hz => by
    unfold rises at h
    rw [Bool.and_eq_true] at h
    have h1 : x.cps.toList < y.cps.toList := of_decide_eq_true h.1
    rcases List.mem_cons.mp hz with rfl | hz
    · exact h1
    · exact List.lt_trans h1 (rises_all h.2 z hz)
theorem rises_pair : ∀ {xs : List Str}, rises xs = true → xs.Pairwise fun a b => ¬ b.cps.toList < a.cps.toList
  | [], _ => .nil
  | [x], _ => List.pairwise_singleton _ _
  | x :: y :: r, h => by
    have h' := h
    unfold rises at h
    rw [Bool.and_eq_true] at h
    exact .cons (fun z hz => List.lt_asymm (rises_all h' z hz)) (rises_pair h.2)
theorem rising_pair : ∀ {x : Str} {r : List Str}, risingS x r = true → (x :: r).Pairwise fun a b => ¬ b.cps.toList < a.cps.toList
  | x, [], _ => List.pairwise_singleton _ _
  | x, y :: r, h => by
    unfold risingS at h
    rw [Bool.and_eq_true, ltCps_eq] at h
    have h1 : ¬ y.cps.toList < x.cps.toList := by simpa using h.1
    have ih := rising_pair h.2
    refine .cons (fun z hz => ?_) ih
    rcases List.mem_cons.mp hz with rfl | hz
    · exact h1
    · have h2 := (List.pairwise_cons.mp ih).1 z hz
      exact fun h3 => h1 (Std.lt_of_le_of_lt (List.not_lt.mp h2) h3)
theorem sorted_same {xs ys : List Str} (p : ys.Perm xs) (hy : sortedS ys = true) (hx : rises xs = true) : ys = xs := by
  refine List.Perm.eq_of_pairwise (le := fun a b => ¬ b.cps.toList < a.cps.toList) (fun a b _ _ h1 h2 => ?_) ?_ (rises_pair hx) p
  · have : a.cps.toList = b.cps.toList := List.le_antisymm (List.not_lt.mp h1) (List.not_lt.mp h2)
    cases a; cases b
    simp only at this
    congr 1
    exact Array.toList_inj.mp this
  · cases ys with
    | nil => exact .nil
    | cons y r => exact rising_pair hy
theorem fsem_sorted {G : Gx} : FSem G (rSortedS G.K) gSorted := fun F H vs ds d Q fh vw e q => by
  unfold gSorted at e
  split at e
  · rename_i ds
    cases e1 : strsOf ds with
    | none => rw [e1] at e; cases e
    | some xs =>
      rw [e1, Option.bind_some] at e
      by_cases hc : xs.length < 64 ∧ rises xs = true
      · rw [if_pos hc] at e
        cases e
        obtain ⟨v, rfl, h⟩ := vw.one
        obtain ⟨a, zs, rfl, t, r⟩ := h.lst fh
        have ez := strs_vw r e1
        refine ⟨a, xs, rfl, by rw [← ez]; exact SqL.of t, hc.1, fun ys pp hp hs hn => ?_⟩
        rw [sorted_same hp hs hc.2, ← ez]
        exact q pp _ hn ⟨_, rfl, r⟩
      · rw [if_neg hc] at e; cases e
  · cases e
theorem d_callBF {id : String} {r : RL} {g : List D → Option D} {sB : SB} (hc : CallR X (.builtin id) r) (hG : FSem (GK X ex) r g) (hg : Gl X x) (hm : X.mg x = none) (ha : DB (GK X ex) X W (e :: es) sB) (hv : bootBuiltins x = some (.builtin id) := by decide +kernel) (hn : x ≠ "__name__" := by decide)
    (hdb : (x == ("__debug__" : Str)) = false := by decide) (he : starEach (e :: es) X.env = (false, eval e X.env) :: starEach es X.env := by rfl) (hpl : (backTo pos (starEach es X.env)).any (·.1) = false := by rfl) : DF (GK X ex) X W (.Call (.Name x p) (e :: es) [] pos) (sOps g sB) :=
  wkE (pe_callB hc hg hm hv ha hn hdb he hpl) fun σ H Q h => opsF_core hG h
/-! ### zip(a, b) of two tuples -/
theorem iter_zipT {K : PySem.W.Frag} {F : Hp} {a b : Addr} {vs ws : List V} {xs ys : List D} (ha : SqT K F a vs) (hb : SqT K F b ws) (rx : Rps K F vs xs) (ry : Rps K F ws ys) : IterOk K (ItzT K a b) F (pairUp xs ys) := by
  have at1 : ∀ {F1 H : Hp}, FLe F F1 → FLe F1 H → SqT K H a vs := fun h1 h2 => h2.sqT (h1.sqT ha)
  have at2 : ∀ {F1 H : Hp}, FLe F F1 → FLe F1 H → SqT K H b ws := fun h1 h2 => h2.sqT (h1.sqT hb)
  have lx := rx.length
  have ly := ry.length
  refine ⟨fun i F1 H h1 h2 hi => ?_, fun F1 H h1 h2 => ⟨vs, ws, at1 h1 h2, at2 h1 h2, ?_⟩, fun i F1 H H' x d h1 h2 e y => ?_⟩
  · unfold pairUp at hi
    rw [List.length_zipWith] at hi
    exact ⟨vs, ws, vs[i]'(by omega), ws[i]'(by omega), at1 h1 h2, at2 h1 h2, by simp [show i < vs.length by omega], by simp [show i < ws.length by omega]⟩
  · unfold pairUp
    rw [List.length_zipWith]
    omega
  · obtain ⟨T, v, w, rfl, hT, rfl, g1, g2⟩ := y
    unfold pairUp at e
    rw [List.getElem?_zipWith] at e
    cases ex : xs[i]? with
    | none => rw [ex] at e; cases e
    | some dx =>
      cases ey : ys[i]? with
      | none => rw [ex, ey] at e; cases e
      | some dy =>
        rw [ex, ey] at e
        cases e
        obtain ⟨v', e1, r1⟩ := rx.get ex
        obtain ⟨w', e2, r2⟩ := ry.get ey
        have e3 := g1 vs (at1 h1 h2)
        have e4 := g2 ws (at2 h1 h2)
        rw [e1] at e3; cases e3
        rw [e2] at e4; cases e4
        have n := New.obj h2 hT (.tup [v, w])
        exact ⟨_, n, .arg (.inl (.inl upd_same)) (.cons (r1.mono (h1.trans n.f)) (.cons (r2.mono (h1.trans n.f)) .nil))⟩
def zipT : List D → Option (List D)
  | [.tup xs, .tup ys] => some (pairUp xs ys)
  | _ => none
theorem zipT_some {ds zs : List D} (h : zipT ds = some zs) : ∃ xs ys, ds = [.tup xs, .tup ys] ∧ zs = pairUp xs ys := by
  unfold zipT at h
  split at h
  · cases h; exact ⟨_, _, rfl, rfl⟩
  · cases h
def iZipT (s : SA) : SA := fun ρ => (s ρ).bind fun ds ρ' => ofO (zipT ds) ρ'
@[simp] theorem ev_iZipT (s : SA) (ρ : Env) : iZipT s ρ = (s ρ).bind fun ds ρ' => ofO (zipT ds) ρ' := rfl
theorem d_iZipT {e2 : Expr} {elts : List Expr} {kk : Nat} {tpos : Pos} (hg : Gl X "zip") (hm : X.mg "zip" = none) (ha : DA (GK X ex) X W [e, e2] sA) (hs : starEach [e, e2] X.env = (false, eval e X.env) :: starEach [e2] X.env := by rfl) (hpl : (backTo pos (starEach [e2] X.env)).any (·.1) = false := by rfl) :
    DI (GK X ex) X W (.Tuple elts kk tpos) (.Call (.Name "zip" p) [e, e2] [] pos) (iZipT sA) :=
  wkI (pi_zipA hg hm ha hs hpl) fun σ H Q ⟨ρ, F, Rv, io, rel, q⟩ => by
    refine ⟨ρ, F, Rv, io, rel, ?_⟩
    unfold iZipT at q
    cases e1 : sA ρ with
    | stuck => rw [e1] at q; exact q.elim
    | exc x ρ' => rw [e1] at q; exact q
    | ok ds ρ' =>
      rw [e1, R.bind_ok] at q
      intro vs H' F' le rel' rs
      cases e3 : zipT ds with
      | none => rw [e3] at q; exact q.elim
      | some zs =>
        rw [e3] at q
        obtain ⟨xs, ys, rfl, rfl⟩ := zipT_some e3
        obtain ⟨v1, v2, rfl, r1, r2⟩ : ∃ v1 v2, vs = [v1, v2] ∧ Rp X.K F' v1 (.tup xs) ∧ Rp X.K F' v2 (.tup ys) := by
          cases rs with
          | cons r1 rs =>
            cases rs with
            | cons r2 rs => cases rs; exact ⟨_, _, rfl, r1, r2⟩
        obtain ⟨a, vs, rfl, t1, q1⟩ : ∃ a vs, v1 = .ref a ∧ TupC F' a vs ∧ Rps X.K F' vs xs := by cases r1; exact ⟨_, _, rfl, by assumption, by assumption⟩
        obtain ⟨b, ws, rfl, t2, q2⟩ : ∃ a vs, v2 = .ref a ∧ TupC F' a vs ∧ Rps X.K F' vs ys := by cases r2; exact ⟨_, _, rfl, by assumption, by assumption⟩
        exact ⟨a, b, vs, ws, rfl, .inr ⟨rel'.fH.sqT t1.sq, rel'.fH.sqT t2.sq, q _ H' F' le rel' (iter_zipT t1.sq t2.sq q1 q2)⟩⟩
end
end Dt

set_option Elab.async false
set_option linter.all false
set_option maxRecDepth 100000
set_option maxHeartbeats 4000000
/-! Dicts of a def's own whose keys are nested tuples of ints and truth values. -/
namespace Dt
open PySem PySem.Spec PyProof.Rows L2
theorem NestedAll.of {h : Heap} {ks : List NestedKey} {us : List Value} (r : NestedAll h ks us) : NestedAll h ks us.toArray.toList := by simpa using r
section
variable {X : Cx} {pins : List (Addr × Obj)} {σ : L2.St} {H F : Hp} {s : Shared}
mutual
theorem nk_is (I : Inv X pins σ H s) (fh : FLe F H) : ∀ {d : D} {v : V} {k : NestedKey} {u : Value}, Rp X.K F v d → nk d = some k → RelV v u → NestedIs s.heap k u
  | .bl b, _, _, _, r, e, q => by
    cases r
    simp only [nk] at e
    cases e
    obtain rfl : _ = Value.bool b := q
    exact .bool rfl
  | .int i, _, _, _, r, e, q => by
    cases r
    simp only [nk] at e
    cases e
    obtain ⟨t, rfl⟩ := q
    exact .int i t
  | .tup ds, _, _, _, r, e, q => by
    simp only [nk] at e
    cases e1 : nks ds with
    | none => rw [e1] at e; cases e
    | some ks =>
      rw [e1] at e
      cases e
      cases r with
      | @tup a xs _ t rs =>
        obtain rfl : _ = Value.ref a := q
        obtain ⟨its, rv, p, _⟩ := I.tuple (fh.sqT (t.sq (K := X.K)))
        obtain ⟨o, ho, hc, n, hd⟩ := id p
        exact .tup ho hc hd (NestedAll.of (nks_is I fh rs e1 rv))
  | .non, _, _, _, _, e, _ => by simp only [nk] at e; cases e
  | .str _, _, _, _, _, e, _ => by simp only [nk] at e; cases e
  | .lst _, _, _, _, _, e, _ => by simp only [nk] at e; cases e
  | .dct _ _, _, _, _, _, e, _ => by simp only [nk] at e; cases e
  | .scr _, _, _, _, _, e, _ => by simp only [nk] at e; cases e
  | .arg _, _, _, _, _, e, _ => by simp only [nk] at e; cases e
  | .fn _, _, _, _, _, e, _ => by simp only [nk] at e; cases e
  | .exn _, _, _, _, _, e, _ => by simp only [nk] at e; cases e
  | .nd _ _, _, _, _, _, e, _ => by simp only [nk] at e; cases e
theorem nks_is (I : Inv X pins σ H s) (fh : FLe F H) : ∀ {ds : List D} {vs : List V} {ks : List NestedKey} {us : List Value}, Rps X.K F vs ds → nks ds = some ks → Vals vs us → NestedAll s.heap ks us
  | [], _, _, _, r, e, q => by
    cases r
    simp only [nks] at e
    cases e
    cases q
    exact .nil
  | d :: ds, _, _, _, r, e, q => by
    simp only [nks] at e
    cases e1 : nk d with
    | none => rw [e1] at e; cases e
    | some k =>
      cases e2 : nks ds with
      | none => rw [e1, e2] at e; cases e
      | some ks =>
        rw [e1, e2] at e
        cases e
        cases r with
        | cons r1 r2 => cases q with
          | cons q1 q2 => exact .cons (nk_is I fh r1 e1 q1) (nks_is I fh r2 e2 q2)
end
theorem nkey_some {d : D} {k : NestedKey} (h : nkey d = some k) : nk d = some k ∧ k.depth ≤ 8 ∧ ∃ ds, d = .tup ds := by
  cases d with
  | tup ds =>
    simp only [nkey] at h
    cases e : nk (.tup ds) with
    | none => rw [e] at h; cases h
    | some k' =>
      rw [e] at h
      by_cases z : k'.depth ≤ 8
      · have h : (if k'.depth ≤ 8 then some k' else none) = some k := h
        rw [if_pos z] at h
        cases h
        exact ⟨rfl, z, ds, rfl⟩
      · have h : (if k'.depth ≤ 8 then some k' else none) = some k := h
        rw [if_neg z] at h
        cases h
  | _ => cases h
theorem nkey_is (I : Inv X pins σ H s) (fh : FLe F H) {d : D} {v : V} {k : NestedKey} {u : Value} (r : Rp X.K F v d) (e : nkey d = some k) (q : RelV v u) : ∃ a, v = .ref a ∧ u = .ref a ∧ (nestedKind X.prog X.w).is s.heap k a := by
  obtain ⟨h1, h2, ds, rfl⟩ := nkey_some e
  cases r with
  | @tup a xs _ t rs =>
    have z := nk_is I fh (.tup t rs) h1 q
    obtain rfl : u = Value.ref a := q
    exact ⟨a, rfl, rfl, z, h2⟩
mutual
/-- a key without texts: its hash is the same in every world -/
theorem nk_hash : ∀ {d : D} {k : NestedKey}, nk d = some k → ∀ w w' : World, k.hash w = k.hash w'
  | .bl b, _, e, w, w' => by simp only [nk] at e; cases e; rfl
  | .int i, _, e, w, w' => by simp only [nk] at e; cases e; rfl
  | .tup ds, _, e, w, w' => by
    simp only [nk] at e
    cases e1 : nks ds with
    | none => rw [e1] at e; cases e
    | some ks =>
      rw [e1] at e
      cases e
      show reduceHash (Builtin.Tuple.tupleHashOf (NestedKey.hashes w ks)) = reduceHash (Builtin.Tuple.tupleHashOf (NestedKey.hashes w' ks))
      rw [nks_hash e1 w w']
  | .non, _, e, _, _ => by simp only [nk] at e; cases e
  | .str _, _, e, _, _ => by simp only [nk] at e; cases e
  | .lst _, _, e, _, _ => by simp only [nk] at e; cases e
  | .dct _ _, _, e, _, _ => by simp only [nk] at e; cases e
  | .scr _, _, e, _, _ => by simp only [nk] at e; cases e
  | .arg _, _, e, _, _ => by simp only [nk] at e; cases e
  | .fn _, _, e, _, _ => by simp only [nk] at e; cases e
  | .exn _, _, e, _, _ => by simp only [nk] at e; cases e
  | .nd _ _, _, e, _, _ => by simp only [nk] at e; cases e
theorem nks_hash : ∀ {ds : List D} {ks : List NestedKey}, nks ds = some ks → ∀ w w' : World, NestedKey.hashes w ks = NestedKey.hashes w' ks
  | [], _, e, w, w' => by simp only [nks] at e; cases e; rfl
  | d :: ds, _, e, w, w' => by
    simp only [nks] at e
    cases e1 : nk d with
    | none => rw [e1] at e; cases e
    | some k =>
      cases e2 : nks ds with
      | none => rw [e1, e2] at e; cases e
      | some ks =>
        rw [e1, e2] at e
        cases e
        show NestedKey.hash w k :: NestedKey.hashes w ks = NestedKey.hash w' k :: NestedKey.hashes w' ks
        rw [nk_hash e1 w w', nks_hash e2 w w']
end
/-- what a dict holds at a key -/
def ndLook : List D → List D → NestedKey → Option D
  | k' :: ks, d :: ds, k => if nkey k' = some k then some d else ndLook ks ds k
  | _, _, _ => none
def ndPut (ks ds : List D) (kd : D) (k : NestedKey) (z : D) : List D × List D :=
  if (ndLook ks ds k).isSome = true then (ks, List.zipWith (fun k' d => if nkey k' = some k then z else d) ks ds) else (ks ++ [kd], ds ++ [z])
theorem nd_at {K : PySem.W.Frag} {k : NestedKey} : ∀ {xs : List (NestedKey × Addr × Value)} {ks ds : List D} {vs : List V}, ks.map nkey = xs.map (fun x => some x.1) → Vals vs (xs.map fun x => x.2.2) → Rps K F vs ds →
    (atKey xs k = none ∧ ndLook ks ds k = none) ∨ ∃ p d v, atKey xs k = some p ∧ ndLook ks ds k = some d ∧ RelV v p.2 ∧ Rp K F v d
  | [], [], ds, vs, _, rv, rs => by cases rv; cases rs; exact .inl ⟨rfl, rfl⟩
  | [], _ :: _, _, _, e, _, _ => by simp at e
  | _ :: _, [], _, _, e, _, _ => by simp at e
  | x :: xs, k' :: ks, ds, vs, e, rv, rs => by
    rw [List.map_cons, List.map_cons] at e
    obtain ⟨e1, e2⟩ := List.cons.inj e
    cases rv with
    | cons a b =>
      cases rs with
      | cons c d =>
        by_cases z : x.1 = k
        · have zk : nkey k' = some k := by rw [e1, z]
          exact .inr ⟨x.2, _, _, by simp [atKey, z], by simp [ndLook, zk], a, c⟩
        · have zk : ¬ nkey k' = some k := fun h => z (by rw [e1] at h; exact Option.some.inj h)
          have e3 : atKey (x :: xs) k = atKey xs k := by simp [atKey, z]
          have e4 : ∀ y ys, ndLook (k' :: ks) (y :: ys) k = ndLook ks ys k := fun y ys => by simp [ndLook, zk]
          rw [e3, e4]
          exact nd_at e2 b d
/-- a dict of the data stands at p -/
def NdAt (K : PySem.W.Frag) (F H : Hp) (p : Addr) (ks ds : List D) : Prop := ∃ ob xs vs, Rd H p (AtO p ob) ∧ NdC p ob xs ks vs ∧ Rps K F (xs.map fun x => .ref x.2.1) ks ∧ Rps K F vs ds
theorem Vw.nd {K : PySem.W.Frag} (fh : FLe F H) {v : V} {ks ds : List D} (h : Vw K F H v (.nd ks ds)) : ∃ p, v = .ref p ∧ NdAt K F H p ks ds := by
  rcases h with h | ⟨p, o, e, h1, ob, xs, vs, rfl, c, r1, r2⟩
  · cases h with
    | nd t c r1 r2 => exact ⟨_, rfl, _, _, _, .inr ⟨_, fh _ _ t⟩, c, r1, r2⟩
  · exact ⟨p, e, ob, xs, vs, .inl h1, c, r1, r2⟩
theorem keys_is (I : Inv X pins σ H s) (fh : FLe F H) : ∀ {xs : List (NestedKey × Addr × Value)} {ks : List D}, ks.map nkey = xs.map (fun x => some x.1) → Rps X.K F (xs.map fun x => V.ref x.2.1) ks → ∀ x ∈ xs, (nestedKind X.prog X.w).is s.heap x.1 x.2.1
  | [], _, _, _, x, hx => nomatch hx
  | _ :: _, [], e, _, _, _ => by simp at e
  | y :: xs, k :: ks, e, r, x, hx => by
    rw [List.map_cons, List.map_cons] at e
    obtain ⟨e1, e2⟩ := List.cons.inj e
    rw [List.map_cons] at r
    cases r with
    | cons r1 r2 =>
      rcases List.mem_cons.mp hx with rfl | hx
      · obtain ⟨a, h1, h2, h3⟩ := nkey_is (u := .ref x.2.1) I fh r1 e1 rfl
        cases h1
        exact h3
      · exact keys_is I fh e2 r2 x hx
theorem nd_of (I : Inv X pins σ H s) (fh : FLe F H) {p : Addr} {ob : Obj} {xs : List (NestedKey × Addr × Value)} {ks : List D} {vs : List V} (hp : Rd H p (AtO p ob)) (c : NdC p ob xs ks vs) (rk : Rps X.K F (xs.map fun x => .ref x.2.1) ks) :
    s.heap.get? p = some ob ∧ s.heap.DictOfH (nestedKind X.prog X.w) p xs := by
  obtain ⟨h1, _⟩ := (show ObjOk X.prog X.w H s.heap p (AtO p ob) from rd_of I.hok hp)
  obtain ⟨es, ep, h2, h3⟩ := c.en
  exact ⟨h1, ob, es, ep, h1, c.ex, h2, h3 _ _, keys_is I fh c.keys rk, c.nod⟩
theorem ato_ok {P : Program} {w : World} {H : Hp} {h : Heap} {p : Addr} {ob : Obj} (e : h.get? p = some ob) : ObjOk P w H h p (AtO p ob) := ⟨e, ⟨ob, e⟩, fun h1 h2 e1 k => k ob e1⟩
def rInN (K : PySem.W.Frag) (neg : Bool) : R2 := fun x y H Q => ∃ (F : Hp) (p : Addr) (ks ds : List D) (kd : D) (k : NestedKey), FLe F H ∧ y = .ref p ∧ NdAt K F H p ks ds ∧ Rp K F x kd ∧ nkey kd = some k ∧ Q (.bl (xor neg (ndLook ks ds k).isSome)) H
theorem nd_some {K : PySem.W.Frag} {xs : List (NestedKey × Addr × Value)} {ks ds : List D} {vs : List V} {k : NestedKey} (c : ks.map nkey = xs.map (fun x => some x.1)) (rv : Vals vs (xs.map fun x => x.2.2)) (rs : Rps K F vs ds) : (atKey xs k).isSome = (ndLook ks ds k).isSome := by
  rcases nd_at (k := k) c rv rs with ⟨e1, e2⟩ | ⟨p, d, v, e1, e2, _⟩ <;> rw [e1, e2] <;> rfl
theorem op_inN (hu : X.A.units + 64 < cLine) : OpR X (compareOp .In) (rInN X.K false) := by
  intro pins s σ H x y v u Q I rx ry ⟨F, p, ks, ds, kd, k, fh, e, ⟨ob, xs, vs, hp, c, rk, rv⟩, rp, ek, q⟩
  subst e
  obtain rfl : u = Value.ref p := ry
  obtain ⟨a, rfl, rfl, hk⟩ := nkey_is I fh rp ek rx
  obtain ⟨_, dd⟩ := nd_of I fh hp c rk
  refine wpAny_in_heap (knd := nestedKind X.prog X.w) (show X.A.in1.units + 8 < cLine by rw [Around.in1_units]; omega) hk c.ns dd ?_
  rw [nd_some c.keys c.vals rv]
  exact ⟨.bl _, H, I.tok _, rfl, by simpa using q⟩
theorem op_notInN (hu : X.A.units + 64 < cLine) : OpR X (compareOp .NotIn) (rInN X.K true) := by
  intro pins s σ H x y v u Q I rx ry ⟨F, p, ks, ds, kd, k, fh, e, ⟨ob, xs, vs, hp, c, rk, rv⟩, rp, ek, q⟩
  subst e
  obtain rfl : u = Value.ref p := ry
  obtain ⟨a, rfl, rfl, hk⟩ := nkey_is I fh rp ek rx
  obtain ⟨_, dd⟩ := nd_of I fh hp c rk
  refine wpAny_notIn_heap (knd := nestedKind X.prog X.w) (show X.A.in1.units + 8 < cLine by rw [Around.in1_units]; omega) hk c.ns dd ?_
  rw [nd_some c.keys c.vals rv]
  exact ⟨.bl _, H, I.tok _, rfl, by simpa using q⟩
def rIxN (K : PySem.W.Frag) : R2 := fun x y H Q => ∃ (F : Hp) (p : Addr) (ks ds : List D) (kd : D) (k : NestedKey) (z : D), FLe F H ∧ x = .ref p ∧ NdAt K F H p ks ds ∧ Rp K F y kd ∧ nkey kd = some k ∧ ndLook ks ds k = some z ∧ ∀ v, Rp K F v z → Q v H
theorem ix_nd (hu : X.A.units + 64 < cLine) : IxR X (rIxN X.K) := by
  intro value slice pins s σ H x y v u Q I rx ry ⟨F, p, ks, ds, kd, k, z, fh, e, ⟨ob, xs, vs, hp, c, rk, rv⟩, rp, ek, el, q⟩ hs
  subst e
  obtain rfl : v = Value.ref p := rx
  obtain ⟨a, rfl, rfl, hk⟩ := nkey_is I fh rp ek ry
  obtain ⟨_, dd⟩ := nd_of I fh hp c rk
  rcases nd_at (k := k) c.keys c.vals rv with ⟨_, e2⟩ | ⟨pv, d, v, e1, e2, r1, r2⟩
  · rw [el] at e2; cases e2
  · rw [el] at e2
    cases e2
    exact tail_any (ops := [.ref p, .ref a]) dd.typeIs PySem.F.slot_dict_getitem.lookup (wpAny_getItem_heap (knd := nestedKind X.prog X.w) (show X.A.in1.units + 8 < cLine by rw [Around.in1_units]; omega) hk dd e1 ⟨v, H, I.tok _, r1, q v r2⟩) hs
/-! ### d[k] = v -/
theorem nkey_hash (w w' : World) {d : D} {k : NestedKey} (h : nkey d = some k) : k.hash w = k.hash w' := by
  unfold nkey at h
  split at h
  · split at h
    · rename_i e
      split at h
      · cases h; exact nk_hash e w w'
      · cases h
    · cases h
  · cases h
theorem stored_hash {P P' : Program} {w w' : World} {xs : List (NestedKey × Addr × Value)} {ks : List D} {kd : D} {k : NestedKey} {a : Addr} {r : Value} (hk : ks.map nkey = xs.map fun x => some x.1) (ek : nkey kd = some k) :
    (storedH xs k a r).map (entryOfKey (nestedKind P w)) = (storedH xs k a r).map (entryOfKey (nestedKind P' w')) := by
  refine List.map_congr_left fun x hx => ?_
  have key : x.1.hash w = x.1.hash w' := by
    have old : ∀ y ∈ xs, y.1.hash w = y.1.hash w' := fun y hy => by
      have m : some y.1 ∈ ks.map nkey := by rw [hk]; exact List.mem_map.mpr ⟨y, hy, rfl⟩
      obtain ⟨d, _, e⟩ := List.mem_map.mp m
      exact nkey_hash w w' e
    unfold storedH at hx
    split at hx
    · obtain ⟨y, hy, rfl⟩ := List.mem_map.mp hx
      have : (putAt k r y).1 = y.1 := by unfold putAt; split <;> rfl
      rw [this]
      exact old y hy
    · rcases List.mem_append.mp hx with hx | hx
      · exact old x hx
      · rw [List.mem_singleton.mp hx]; exact nkey_hash w w' ek
  show DictEntry.mk (x.1.hash w) _ _ = DictEntry.mk (x.1.hash w') _ _
  rw [key]
theorem nd_stored {K : PySem.W.Frag} {p a : Addr} {ob ob' : Obj} {xs : List (NestedKey × Addr × Value)} {ks ds : List D} {vs : List V} {kd z : D} {k : NestedKey} {v : V} {r : Value} (c : NdC p ob xs ks vs) (rk : Rps K F (xs.map fun x => .ref x.2.1) ks) (rv : Rps K F vs ds) (ek : nkey kd = some k) (ra : Rp K F (.ref a) kd)
    (rr : RelV v r) (rz : Rp K F v z) (hx : ob'.ExactDict) (hd : ∃ es ep, ob'.data = .dict es ep ∧ ∀ (P : Program) (w : World), es.toList = (storedH xs k a r).map (entryOfKey (nestedKind P w))) :
    OwnObj K F p (AtO p ob') (.nd (ndPut ks ds kd k z).1 (ndPut ks ds kd k z).2) := by
  unfold ndPut
  rw [← nd_some (k := k) c.keys c.vals rv]
  unfold storedH at hd
  by_cases h : (atKey xs k).isSome = true
  · rw [if_pos h] at hd ⊢
    have go : ∀ {xs : List (NestedKey × Addr × Value)} {ks ds : List D} {vs : List V}, ks.map nkey = xs.map (fun x => some x.1) → Vals vs (xs.map fun x => x.2.2) → Rps K F vs ds → ∃ vs', Vals vs' ((xs.map (putAt k r)).map fun x => x.2.2) ∧ Rps K F vs' (List.zipWith (fun k' d => if nkey k' = some k then z else d) ks ds) := by
      intro xs
      induction xs with
      | nil => intro ks ds vs e a b; cases ks with
        | nil => cases a; cases b; exact ⟨[], .nil, .nil⟩
        | cons _ _ => simp at e
      | cons x xs ih =>
        intro ks ds vs e a b
        cases ks with
        | nil => simp at e
        | cons k' ks =>
          rw [List.map_cons, List.map_cons] at e
          obtain ⟨e1, e2⟩ := List.cons.inj e
          cases a with
          | @cons vs0 _ _ _ a1 a2 => cases b with
            | cons b1 b2 =>
              obtain ⟨vs', h1, h2⟩ := ih e2 a2 b2
              by_cases q : x.1 = k
              · refine ⟨v :: vs', ?_, ?_⟩
                · rw [List.map_cons, List.map_cons]
                  refine .cons ?_ h1
                  rw [putAt, if_pos q]
                  exact rr
                · rw [List.zipWith_cons_cons, if_pos (by rw [e1, q])]
                  exact .cons rz h2
              · refine ⟨vs0 :: vs', ?_, ?_⟩
                · rw [List.map_cons, List.map_cons]
                  refine .cons ?_ h1
                  rw [putAt, if_neg q]
                  exact a1
                · rw [List.zipWith_cons_cons, if_neg (fun w => q (by rw [e1] at w; exact Option.some.inj w))]
                  exact .cons b1 h2
    obtain ⟨vs', h1, h2⟩ := go c.keys c.vals rv
    have km : ∀ {β : Type} (f : NestedKey → Addr → β), ((xs.map (putAt k r)).map fun x => f x.1 x.2.1) = xs.map fun x => f x.1 x.2.1 := fun f => by
      rw [List.map_map]
      refine List.map_congr_left fun x _ => ?_
      show f (putAt k r x).1 (putAt k r x).2.1 = _
      unfold putAt
      split <;> rfl
    refine ⟨ob', xs.map (putAt k r), vs', rfl, ⟨c.ns, hx, hd, ?_, h1, ?_⟩, ?_, h2⟩
    · rw [keys_map_putAt]; exact c.nod
    · rw [km fun k _ => some k]; exact c.keys
    · rw [km fun _ a => V.ref a]; exact rk
  · rw [if_neg h] at hd ⊢
    refine ⟨ob', xs ++ [(k, a, r)], vs ++ [v], rfl, ⟨c.ns, hx, hd, ?_, ?_, ?_⟩, ?_, rv.append (.cons rz .nil)⟩
    · rw [List.map_append, List.nodup_append]
      refine ⟨c.nod, by simp, ?_⟩
      intro b hb b' hb' z
      simp only [List.map_cons, List.map_nil, List.mem_singleton] at hb'
      subst hb' z
      obtain ⟨x, hx, e⟩ := List.mem_map.mp hb
      refine h ?_
      unfold atKey
      rw [Option.isSome_map, List.find?_isSome]
      exact ⟨x, hx, by simp [e]⟩
    · rw [List.map_append]; exact c.vals.append (.cons rr .nil)
    · rw [List.map_append, List.map_append, c.keys]
      show _ ++ [nkey kd] = _ ++ [some k]
      rw [ek]
    · rw [List.map_append]; exact rk.append (.cons ra .nil)
def rSetN (K : PySem.W.Frag) : TSet := fun o i v H Q => ∃ (F : Hp) (p : Addr) (ob0 : HO) (ks ds : List D) (kd z : D) (k : NestedKey), FLe F H ∧ o = .ref p ∧ H p = some ob0 ∧ OwnObj K F p ob0 (.nd ks ds) ∧ Rp K F i kd ∧ nkey kd = some k ∧ ks.length ≤ sizeLine ∧ Rp K F v z ∧
  ∀ ob', OwnObj K F p ob' (.nd (ndPut ks ds kd k z).1 (ndPut ks ds kd k z).2) → Q (upd H p ob')
theorem set_nd (hu : X.A.units + 64 < cLine) : PSet X (rSetN X.K) := by
  intro pins s σ H o i v ov iv u Q I ro ri rv ⟨F, p, ob0, ks, ds, kd, z, k, fh, e, hp, ⟨ob, xs, vs, e0, c, rk, rs⟩, rp, ek, hz, rz, q⟩
  subst e e0
  obtain rfl : ov = Value.ref p := ro
  obtain ⟨a, rfl, rfl, hk⟩ := nkey_is I fh rp ek ri
  obtain ⟨h0, dd⟩ := nd_of I fh (.inl hp) c rk
  have hl : xs.length = ks.length := by
    have := congrArg List.length c.keys
    rw [List.length_map, List.length_map] at this
    exact this.symm
  refine wpAny_setItem_heap (knd := nestedKind X.prog X.w) (show X.A.in1.units + 8 < cLine by rw [Around.in1_units]; omega) hk dd (fun h' dd' sb => ?_) (by rw [hl]; exact hz)
  obtain ⟨ob', es, ep, h1, h2, h3, h4, h5, h6⟩ := dd'
  have own := nd_stored (ob' := ob') c rk rs ek rp rv rz h2 ⟨es, ep, h3, fun P w => ?_⟩
  · exact ⟨upd H p (AtO p ob'), d_write (t' := _) I (by rw [hp]; exact True.intro) sb ⟨ob', h1⟩ (ato_ok h1), q _ own⟩
  · rw [h4]
    exact stored_hash c.keys ek
end
end Dt

set_option Elab.async false
set_option linter.all false
set_option maxRecDepth 100000
set_option maxHeartbeats 4000000
/-! The judgements' rules for dicts with nested keys. -/
namespace Dt
open PySem PySem.Spec PyProof.Rows L2
section
variable {ex : Exx} {X : Cx} {W : WX} {a b c e o tg : Expr} {es : List Expr} {pos p : Pos} {sa sb sc : SO} {ea eb : SE} {sB : SB} {sA : SA} {x : Str} {id : String} {G : Gx}
def gInN : List D → Option D
  | [x, .nd ks ds] => (nkey x).map fun k => .bl (ndLook ks ds k).isSome
  | _ => none
def gNotInN : List D → Option D
  | [x, .nd ks ds] => (nkey x).map fun k => .bl (!(ndLook ks ds k).isSome)
  | _ => none
def gIdxN : List D → Option D
  | [.nd ks ds, y] => (nkey y).bind fun k => ndLook ks ds k
  | _ => none
theorem nkey_rp {K : PySem.W.Frag} {F H : Hp} {v : V} {d : D} {k : NestedKey} (h : Vw K F H v d) (e : nkey d = some k) : Rp K F v d := by
  rcases h with h | ⟨p, o, _, _, h⟩
  · exact h
  · obtain ⟨_, _, ds, rfl⟩ := nkey_some e
    exact h.elim
theorem psem_inN : PSem G (r2L (rInN G.K false)) gInN := fun F H vs ds d Q fh vw e q => by
  unfold gInN at e
  split at e
  · rename_i x ks ds
    obtain ⟨v, w, rfl, h1, h2⟩ := vw.two
    cases e1 : nkey x with
    | none => rw [e1] at e; cases e
    | some k =>
      rw [e1] at e
      cases e
      obtain ⟨p, rfl, hp⟩ := h2.nd fh
      exact ⟨v, _, rfl, F, p, ks, ds, x, k, fh, rfl, hp, nkey_rp h1 e1, e1, by simpa using fin_flat fh q (.bl _)⟩
  · cases e
theorem psem_notInN : PSem G (r2L (rInN G.K true)) gNotInN := fun F H vs ds d Q fh vw e q => by
  unfold gNotInN at e
  split at e
  · rename_i x ks ds
    obtain ⟨v, w, rfl, h1, h2⟩ := vw.two
    cases e1 : nkey x with
    | none => rw [e1] at e; cases e
    | some k =>
      rw [e1] at e
      cases e
      obtain ⟨p, rfl, hp⟩ := h2.nd fh
      exact ⟨v, _, rfl, F, p, ks, ds, x, k, fh, rfl, hp, nkey_rp h1 e1, e1, by simpa using fin_flat fh q (.bl _)⟩
  · cases e
theorem psem_idxN : PSem G (r2L (rIxN G.K)) gIdxN := fun F H vs ds d Q fh vw e q => by
  unfold gIdxN at e
  split at e
  · rename_i ks ds y
    obtain ⟨v, w, rfl, h1, h2⟩ := vw.two
    cases e1 : nkey y with
    | none => rw [e1] at e; cases e
    | some k =>
      rw [e1, Option.bind_some] at e
      obtain ⟨p, rfl, hp⟩ := h1.nd fh
      exact ⟨_, w, rfl, F, p, ks, ds, y, k, d, fh, rfl, hp, nkey_rp h2 e1, e1, e, fun v r => q v H F (New.refl fh) r⟩
  · cases e
theorem d_idxN (hu : At X W) (ha : DO (GK X ex) X W a sa) (hb : DO (GK X ex) X W b sb) (hs : PlainIx b := by intro _ _; rfl) : DE (GK X ex) X W (.Subscript a b pos) (sOps gIdxN (b2 sa sb)) :=
  wkE (pe_ix (ix_nd hu.un) ha hb hs) fun σ H Q h => two_ops (r := rIxN X.K) psem_idxN h
/-- {}: keys will be nested tuples -/
theorem d_ndF : DF (GK X ex) X W (.Dict [] [] pos) (sCst (.nd [] [])) := wkE (u := tF (GK X ex) W (sCst (.nd [] []))) (t := fun σ H Q => ∀ p ob, H p = none → (∀ K F, OwnObj K F p (AtO p ob) (.nd [] [])) → Q (.ref p) (upd H p (AtO p ob))) ⟨fun pins s σ H Q I h => by
  have hn : (s.heap.objs.size == sysModules) = false := beq_eq_false_iff_ne.mpr (Ne.symm (Nat.ne_of_lt I.big))
  have hg : (s.heap.push { cls := .type "dict", data := .dict #[] }).get? s.heap.objs.size = some { cls := .type "dict", data := .dict #[] } := Heap.get?_push_size _ rfl
  exact wpAny_Dict_empty ⟨.ref s.heap.objs.size, _, I.laid (a := s.heap.objs.size) (o := AtO s.heap.objs.size _) (t' := s.toks) (fun _ _ q => Heap.get?_push_of_some _ q) (Nat.le_refl _) (ato_ok hg), rfl,
    h _ _ (I.hok.fresh (Nat.le_refl _)) fun K F => ⟨_, [], [], rfl, ⟨hn, ⟨rfl, rfl, rfl⟩, ⟨#[], 0, rfl, fun _ _ => rfl⟩, List.nodup_nil, .nil, rfl⟩, .nil, .nil⟩⟩⟩
  fun σ H Q ⟨ρ, F, Rv, io, rel, q⟩ => fun p ob hp own => q p _ F (FLe.refl F) (rel.newH hp _) ⟨rel.fH.noneOf hp, rel.rH.noneOf hp, _, upd_same, own _ _⟩ (rel.loose hp)
/-- d[k] = v -/
def putN (d i z : D) : Option D := match d with
  | .nd ks ds => (nkey i).bind fun k => if ks.length ≤ sizeLine then some (.nd (ndPut ks ds i k z).1 (ndPut ks ds i k z).2) else none
  | _ => none
def gPutN (i : Nat) (sk : SO) : SG := fun z ρ => match held ρ i with
  | none => .stuck
  | some _ => (sk ρ).bind fun o ρ' => match held ρ' i, o.get ρ' with
    | some d, some k => match putN d k z with
      | some d' => .ok () (put ρ' i d')
      | none => .stuck
    | _, _ => .stuck
@[simp] theorem ev_gPutN (i : Nat) (sk : SO) (z : D) (ρ : Env) : gPutN i sk z ρ = match held ρ i with
  | none => .stuck
  | some _ => (sk ρ).bind fun o ρ' => match held ρ' i, o.get ρ' with
    | some d, some k => match putN d k z with
      | some d' => .ok () (put ρ' i d')
      | none => .stuck
    | _, _ => .stuck := rfl
theorem putN_set {F H : Hp} {d i z d' : D} {p : Addr} {ob : HO} {iv v : V} {Q : Hp → Prop} (fh : FLe F H) (hp : H p = some ob) (ho : OwnObj G.K F p ob d) (hi : Vw G.K F H iv i) (hv : Rp G.K F v z) (e : putN d i z = some d')
    (q : ∀ ob', OwnObj G.K F p ob' d' → Q (upd H p ob')) : rSetN G.K (.ref p) iv v H Q := by
  cases d with
  | nd ks ds =>
    simp only [putN] at e
    cases e2 : nkey i with
    | none => rw [e2] at e; cases e
    | some k =>
      rw [e2, Option.bind_some] at e
      split at e
      · rename_i hz
        cases e
        exact ⟨F, p, ob, ks, ds, i, z, k, fh, rfl, hp, ho, nkey_rp hi e2, e2, hz, hv, q⟩
      · cases e
  | _ => simp only [putN] at e; cases e
theorem d_gPutN {i : Nat} (hu : At X W) (ho : PE X o (tVar i)) (hi : DO (GK X ex) X W e sa)
    (ha : ∀ v, assign (.Subscript o e pos) X.env v = (do
      let ov ← holding [v] (eval o X.env)
      let iv ← holding [v, ov] (eval e X.env)
      standAt pos
      holding [v, ov, iv] (setItem ov iv v)
      release [v, ov, iv] []) := by intro _; rfl) : DG (GK X ex) X W [] (.Subscript o e pos) (gPutN i sa) :=
  wkG (pg_sub ho hi (set_nd hu.un) ha) fun v σ H Q ⟨z, ρ, F, Rv, io, rel, rp, q⟩ => by
    rw [ev_gPutN] at q
    cases e1 : held ρ i with
    | none => rw [e1] at q; exact q.elim
    | some d0 =>
      rw [e1] at q
      obtain ⟨p, ob, e2, e3, e4, _⟩ := put_own (G := GK X ex) (d' := d0) rel e1
      refine ⟨_, e2, ρ, F, Rv, io, rel, ?_⟩
      cases e5 : sa ρ with
      | stuck => rw [e5] at q; exact q.elim
      | exc x ρ' => rw [e5] at q; exact q
      | ok o' ρ' =>
        rw [e5] at q
        simp only [R.bind_ok] at q
        intro iv H' F' le rel' ok
        cases e6 : held ρ' i with
        | none => rw [e6] at q; exact q.elim
        | some d =>
          cases e7 : o'.get ρ' with
          | none => rw [e6, e7] at q; exact q.elim
          | some k =>
            rw [e6, e7] at q
            simp only at q
            cases e8 : putN d k z with
            | none => rw [e8] at q; exact q.elim
            | some d' =>
              rw [e8] at q
              obtain ⟨p', ob', e9, e10, e11, e12⟩ := put_own (G := GK X ex) (d' := d') rel' e6
              rw [e2] at e9
              cases e9
              exact putN_set (G := GK X ex) rel'.fH e10 e11 (rel'.view (G := GK X ex) ok e7) (rp.mono le) e8 fun ob2 h2 => q σ _ F' le (e12 ob2 h2) ⟨rfl, fun _ _ => rfl⟩
/-! ### for k in d -/
/-- the keys of the locked dict at d -/
def Itn (d : Addr) (o ob : Obj) (as : List Addr) : It :=
  ⟨fun i H => H d = some (.frz o (AtO d ob)) ∧ i < as.length, fun i H x H' => H' = H ∧ ∃ q, as[i]? = some q ∧ x = .ref q, fun i H => H d = some (.frz o (AtO d ob)) ∧ as.length ≤ i⟩
theorem frzN {pins : List (Addr × Obj)} {σ : L2.St} {H : Hp} {s : Shared} {d : Addr} {o ob : Obj} (I : Inv X pins σ H s) (h : H d = some (.frz o (AtO d ob))) : s.heap.get? d = some ob := by
  obtain ⟨_, z, _⟩ := I.hok d _ h
  exact z
theorem turn_keysN {P : Program} {w : World} {K : PySem.W.Frag} {d : Addr} {o ob : Obj} {es : Array DictEntry} {ep : Nat} {as : List Addr} (it : Addr) (hod : ob.data = .dict es ep) (hes : es.toList.map (·.key) = as.map Value.ref) :
    Turn P w K tg (Itn d o ob as) [it] it (fun i h => h.IsKeyIter it d i as.length ep) := by
  have hsz : es.size = as.length := by
    have := congrArg List.length hes
    rw [List.length_map, List.length_map, Array.length_toList] at this
    exact this
  refine ⟨by simp, fun i h st b hb => ?_, fun i h h' st k => st.at fun oi e => k it (by simp) oi e, ?_, ?_, fun A i s Q E st h => ?_⟩
  · obtain rfl : b = it := by simpa using hb
    obtain ⟨oi, e, c, dd⟩ := st
    exact ⟨oi, e, fun v z => by rw [dd] at z; cases z⟩
  · intro X hP hw hK hc i pins s σ H E I hf st hg; subst hP hw hK
    obtain ⟨hd, hi⟩ := hg
    obtain ⟨f0, f1, f2, f3, f4, f5⟩ := hf it (by simp)
    have hlt : i < es.size := by omega
    have hk : (es[i]'hlt).key = .ref as[i] := by
      have h1 : (es.toList.map (·.key))[i]? = some (es[i]'hlt).key := by rw [List.getElem?_map, Array.getElem?_toList, Array.getElem?_eq_getElem hlt]; rfl
      rw [hes, List.getElem?_map, List.getElem?_eq_getElem hi] at h1
      exact (Option.some.inj h1).symm
    refine next_key_item (en := es[i]'hlt) st (frzN I hd) hod hsz (Array.getElem?_eq_getElem hlt) fun h' st' sb => ?_
    have I1 : Inv X pins σ H { s with heap := h' } := I.turned (t' := s.toks) (fun b ob hb e => (sb.2 b hb).trans e) f0 f1 f3 f4 f5
    obtain ⟨oi, e, c, dd⟩ := id st'
    exact ⟨_, rfl, go_of (s := { s with heap := h' }) e c dd (by decide) ⟨.ref as[i], H, I1, hk, ⟨rfl, as[i], List.getElem?_eq_getElem hi, rfl⟩, st', fun b hb => (hf b hb).1⟩⟩
  · intro X hP hw hK hc i pins s σ H E I hf st hg; subst hP hw hK
    obtain ⟨hd, hi⟩ := hg
    obtain ⟨f0, f1, f2, f3, f4, f5⟩ := hf it (by simp)
    exact next_key_end (I.ok.hd hc) st (frzN I hd) hod hsz hi fun h' eb => ⟨rfl, I.turned (t' := s.toks) (fun b ob hb e => eb b ob hb e) f0 f1 f3 f4 f5⟩
  · refine wpAny_pyIter_slot st.typeIs F.slot_dict_keyiterator_iter (wpAny_call_entry F.slot_dict_keyiterator_iter st.typeIs F.entry_dict_keyiterator_iter ?_ (F.args_dict_keyiterator_iter_1 _))
    show wpAny _ _ (ret (.ref it)) _ _ s
    exact wpAny_pure ⟨_, rfl, "dict_keyiterator", _, st.typeIs, F.slot_dict_keyiterator_next.lookup, h⟩
def keysN : D → Option (List D)
  | .nd ks _ => some ks
  | _ => none
def iNd (s : SE) : SA := fun ρ => (s ρ).bind fun d ρ' => ofO (keysN d) ρ'
@[simp] theorem ev_iNd (s : SE) (ρ : Env) : iNd s ρ = (s ρ).bind fun d ρ' => ofO (keysN d) ρ' := rfl
theorem d_iNd (h : DE (GK X ex) X W e ea) : DI (GK X ex) X W tg e (iNd ea) := by
  refine wkI (t := fun σ H R => tE (GK X ex) W ea σ H fun x H1 => ∃ (a : Addr) (o ob : Obj) (xs : List (NestedKey × Addr × Value)) (ks : List D) (vs : List V), x = .ref a ∧ H1 a = some (.frz o (AtO a ob)) ∧ NdC a ob xs ks vs ∧ R (Itn a o ob (xs.map fun x => x.2.1)) H1) ⟨fun pins s σ H R I hh => ?_⟩ fun σ H Q ⟨ρ, F, Rv, io, rel, q⟩ => ?_
  · refine thn (h.run pins s σ H _ I hh) fun v s1 ⟨x, H1, I1, r1, a, o, ob, xs, ks, vs, ex, hd, c, q⟩ => ?_
    subst ex
    obtain rfl : v = Value.ref a := r1
    obtain ⟨es, ep, h2, h3⟩ := c.en
    have h4 := h3 X.prog X.w
    have hk : es.toList.map (·.key) = (xs.map fun x => x.2.1).map Value.ref := by rw [h4, List.map_map, List.map_map]; rfl
    have hsz : es.size = (xs.map fun x => x.2.1).length := by rw [← Array.length_toList, h4]; simp
    refine iter_keys c.ns (frzN I1 hd) c.ex h2 (pi_one (tk := s1.toks) I1 _ (turn_keysN _ h2 hk) ⟨_, Heap.get?_push_size _ rfl, rfl, ?_⟩ q)
    rw [hsz] <;> rfl
  · refine ⟨ρ, F, Rv, io, rel, ?_⟩
    rw [ev_iNd] at q
    cases e : ea ρ with
    | stuck => rw [e] at q; exact q.elim
    | exc x ρ' => rw [e] at q; exact q
    | ok d ρ' =>
      rw [e, R.bind_ok] at q
      intro v H' F' le rel' rp
      cases rp with
      | @nd a o ob xs vs ks ds t c r1 r2 =>
        refine ⟨a, o, ob, xs, ks, vs, rfl, rel'.fH _ _ t, c, q _ H' F' le rel' ?_⟩
        have hl := r1.length
        rw [List.length_map] at hl
        refine ⟨fun i F1 H h1 h2 hi => ⟨h2 _ _ (h1 _ _ t), by rw [List.length_map, hl]; exact hi⟩, fun F1 H h1 h2 => ⟨h2 _ _ (h1 _ _ t), by rw [List.length_map, hl]; exact Nat.le_refl _⟩, fun i F1 H H' x d h1 h2 e y => ?_⟩
        obtain ⟨e1, q', e2, rfl⟩ := y
        rw [e1]
        obtain ⟨v, e3, r3⟩ := r1.get e
        rw [List.getElem?_map] at e2 e3
        cases e4 : xs[i]? with
        | none => rw [e4] at e2; cases e2
        | some z =>
          rw [e4] at e2 e3
          cases e2
          cases e3
          exact ⟨F1, New.refl h2, r3.mono h1⟩
      | _ => exact q.elim
end
end Dt

set_option Elab.async false
set_option linter.all false
set_option maxRecDepth 100000
set_option maxHeartbeats 4000000
/-! zip and enumerate of lists and tuples alike. -/
namespace Dt
open PySem PySem.Spec PyProof.Rows L2
/-- a tuple (true) or a list (false) -/
def SqK (K : PySem.W.Frag) : Bool → Hp → Addr → List V → Prop
  | true => SqT K
  | false => SqL K
def ItKd : Bool → Heap → Addr → Addr → Nat → Prop
  | true => fun h it a i => h.IsTupleIter it a i
  | false => fun h it a i => h.IsListIter it a i
def IsSq : Bool → Heap → Addr → Array Value → Prop
  | true => fun h a items => h.IsTuple a items
  | false => fun h a items => h.IsList a items
def itObj : Bool → Addr → Obj
  | true => fun a => { cls := .type "tuple_iterator", data := .fields #[.ref a, .int 0 0] }
  | false => fun a => { cls := .type "list_iterator", data := .fields #[.ref a, .int 0 0] }
theorem draws_sq {prog : Program} {w : World} {A : Around} (k : Bool) (hh : A.handled = none) (it a : Addr) (hne : a ≠ it) (items : Array Value) :
    Draws prog w A it [it, a] items.size (fun i v => items[i]? = some v) (fun i h => ItKd k h it a i ∧ IsSq k h a items) := by
  cases k
  · exact Draws.list hh it a hne items
  · exact Draws.tuple hh it a hne items
theorem begins_sq (k : Bool) (a : Addr) (items : Array Value) : Begins (.ref a) (itObj k a) fun h => IsSq k h a items := by
  cases k
  · exact begins_list a items
  · exact begins_tuple a items
theorem itKd_new {k : Bool} {h : Heap} {it a : Addr} (e : h.get? it = some (itObj k a)) : ItKd k h it a 0 := by
  cases k
  · exact ⟨_, e, rfl, rfl⟩
  · exact ⟨_, e, rfl, rfl⟩
theorem itKd_obj {k : Bool} {h : Heap} {it a : Addr} {i : Nat} (e : ItKd k h it a i) : ∃ o, h.get? it = some o ∧ ∀ v, o.data ≠ .cell v := by
  cases k
  · obtain ⟨o, e1, _, d⟩ := e
    exact ⟨o, e1, fun v q => by rw [d] at q; cases q⟩
  · obtain ⟨o, e1, _, d⟩ := e
    exact ⟨o, e1, fun v q => by rw [d] at q; cases q⟩
theorem itKd_at {k : Bool} {h h' : Heap} {it a : Addr} {i : Nat} (e : ItKd k h it a i) (q : ∀ o, h.get? it = some o → h'.get? it = some o) : ItKd k h' it a i := by
  cases k
  · exact Heap.IsListIter.at e q
  · exact Heap.IsTupleIter.at e q
theorem sq_get {X : Cx} {pins : List (Addr × Obj)} {σ : L2.St} {H : Hp} {s : Shared} {k : Bool} {a : Addr} {xs : List V} (I : Inv X pins σ H s) (h : SqK X.K k H a xs) : ∃ its : List Value, Vals xs its ∧ IsSq k s.heap a its.toArray ∧ a < s.heap.objs.size := by
  cases k
  · obtain ⟨its, rv, p, _⟩ := I.list h
    exact ⟨its, rv, p.isList, p.lt⟩
  · obtain ⟨its, rv, p, _⟩ := I.tuple h
    obtain ⟨o, ho, _⟩ := id p
    exact ⟨its, rv, (show s.heap.IsTuple a its.toArray from p), Heap.lt_size ho⟩
theorem sq_inj {X : Cx} {pins : List (Addr × Obj)} {σ : L2.St} {H : Hp} {s : Shared} {k : Bool} {a : Addr} {xs ys : List V} (I : Inv X pins σ H s) (h : SqK X.K k H a xs) (h' : SqK X.K k H a ys) : xs = ys := by
  cases k
  · exact I.list_inj h h'
  · exact I.tuple_inj h h'
/-- one turn of an iterator that hands out its own tuple -/
theorem turn_item {X : Cx} {elts : List Expr} {kk : Nat} {tpos : Pos} {it : Addr} {fp fpw wr : List Addr} {n i : Nat} {Pt : Nat → Array Value → Prop} {St : Nat → Heap → Prop} {Mid : Nat → Addr → Heap → Prop} {pins : List (Addr × Obj)} {s : Shared} {σ : L2.St} {H : Hp} {E : Value → Shared → Prop} {Y : V → Hp → Prop} {tn : Heap → Prop}
    (T : WalksT X.prog X.w X.A it fpw wr n Pt St Mid) (I : Inv X pins σ H s) (hf : ∀ b ∈ fp, FpOk X pins H b) (hi : i < n) (st : St i s.heap) (hw : ∀ b ∈ wr, b ∈ fp) (old : ∀ b ∈ fp, b < s.heap.objs.size)
    (hv : ∀ vals, Pt i vals → ∃ xs : List V, Vals xs vals.toList ∧ xs.length ≤ sizeLine ∧ ∀ T, H T = none → Y (.ref T) (upd H T (.tup xs))) (ht : ∀ h', St (i + 1) h' → tn h') :
    wpAny (model X.prog X.w) X.A (pyNext (.ref it)) (fun r s1 => ∃ u, r = some u ∧
      wpAny (model X.prog X.w) X.A (letOwnedTupleGo (.Tuple elts kk tpos) (.ref it) u) (fun _ s2 => ∃ x H', Inv X pins σ H' s2 ∧ RelV x u ∧ Y x H' ∧ tn s2.heap ∧ ∀ b ∈ fp, H' b = none) E s1) E s := by
  refine T.item i s _ E hi st fun Ta vals h' tk hP hT hI hM hk => ⟨_, rfl, T.go elts kk tpos i Ta { s with heap := h', toks := tk } _ E hM fun h'' st2 hk2 => ?_⟩
  obtain ⟨xs, rv, hl, hy⟩ := hv vals hP
  have nT : H Ta = none := I.hok.fresh hT
  obtain ⟨o, e1, e2, m, e3⟩ := hI
  have nw : Ta ∉ wr := T.apart i Ta h' hM
  have new : ObjOk X.prog X.w (upd H Ta (.tup xs)) h'' Ta (.tup xs) := ⟨hl, vals.toList, rv, o, hk2 Ta o nw e1, e2, m, by rw [Array.toArray_toList]; exact e3⟩
  exact ⟨.ref Ta, _, I.turnedNew (t' := tk) (ch := fp) (fun b o hb q => hk2 b o (fun z => hb (hw b z)) (hk b o (fun z => hb (hw b z)) q)) hf hT new, rfl, hy Ta nT, ht h'' st2,
    fun b hb => by rw [upd_ne (Nat.ne_of_lt (Nat.lt_of_lt_of_le (old b hb) hT))]; exact (hf b hb).1⟩
theorem turn_done {X : Cx} {it : Addr} {fp fpw wr : List Addr} {n : Nat} {Pt : Nat → Array Value → Prop} {St : Nat → Heap → Prop} {Mid : Nat → Addr → Heap → Prop} {pins : List (Addr × Obj)} {s : Shared} {σ : L2.St} {H : Hp} {E : Value → Shared → Prop}
    (T : WalksT X.prog X.w X.A it fpw wr n Pt St Mid) (I : Inv X pins σ H s) (hf : ∀ b ∈ fp, FpOk X pins H b) (st : St n s.heap) (hw : ∀ b ∈ wr, b ∈ fp) : wpAny (model X.prog X.w) X.A (pyNext (.ref it)) (fun r s1 => r = none ∧ Inv X pins σ H s1) E s :=
  T.done s _ E st fun h' tk hk => ⟨rfl, I.turnedL (t' := tk) (ch := fp) (fun b o hb q => hk b o (fun z => hb (hw b z)) q) hf⟩
/-! ### zip -/
def Itzz (K : PySem.W.Frag) (k1 k2 : Bool) (a b : Addr) : It :=
  ⟨fun i H => ∃ (xs ys : List V), SqK K k1 H a xs ∧ SqK K k2 H b ys ∧ i < min xs.length ys.length,
    fun i H v H' => ∃ T x y, v = .ref T ∧ H T = none ∧ H' = upd H T (.tup [x, y]) ∧ (∀ xs, SqK K k1 H a xs → xs[i]? = some x) ∧ ∀ ys, SqK K k2 H b ys → ys[i]? = some y,
    fun i H => ∃ xs ys : List V, SqK K k1 H a xs ∧ SqK K k2 H b ys ∧ i = min xs.length ys.length⟩
theorem vals_at {xs : List V} {its : List Value} {i : Nat} {u : Value} (r : Vals xs its) (e : its.toArray[i]? = some u) : ∃ x, xs[i]? = some x ∧ RelV x u := by
  have e : its[i]? = some u := by simpa using e
  have hl := r.length
  have hi : i < its.length := (List.getElem?_eq_some_iff.mp e).1
  obtain ⟨u', e1, rr⟩ := r.get (x := xs[i]'(by omega)) (i := i) (by simp [show i < xs.length by omega])
  rw [e] at e1
  cases e1
  exact ⟨_, by simp [show i < xs.length by omega], rr⟩
theorem turn_zz {P : Program} {w : World} {K : PySem.W.Frag} {elts : List Expr} {kk : Nat} {tpos : Pos} {a b N : Addr} (k1 k2 : Bool) (ha : a < N) (hb : b < N) :
    Turn P w K (.Tuple elts kk tpos) (Itzz K k1 k2 a b) [N + 4, N + 2, N + 3, N, N + 1] (N + 4) (fun i h => IsZip h (N + 4) (N + 2) (N + 3) .none ∧ IsTupOf2 h (N + 2) (.ref N) (.ref (N + 1)) ∧ (∃ x y, IsTupOf2 h (N + 3) x y) ∧ ItKd k1 h N a i ∧ ItKd k2 h (N + 1) b i) := by
  have S : ZipSep2 (N + 4) (N + 2) (N + 3) N (N + 1) [N, a] [N + 1, b] := zip_sep2 (fun c hc => by rw [List.mem_singleton.mp hc]; exact ha) fun c hc => by rw [List.mem_singleton.mp hc]; exact hb
  have nea : a ≠ N := Nat.ne_of_lt ha
  have neb : b ≠ N + 1 := Nat.ne_of_lt (Nat.lt_succ_of_lt hb)
  have hw : ∀ c ∈ [N + 4, N + 3, N, N + 1], c ∈ [N + 4, N + 2, N + 3, N, N + 1] := fun c hc => by
    have : c = N + 4 ∨ c = N + 3 ∨ c = N ∨ c = N + 1 := by simpa using hc
    rcases this with rfl | rfl | rfl | rfl <;> simp
  have ob : ∀ i h, (IsZip h (N + 4) (N + 2) (N + 3) .none ∧ IsTupOf2 h (N + 2) (.ref N) (.ref (N + 1)) ∧ (∃ x y, IsTupOf2 h (N + 3) x y) ∧ ItKd k1 h N a i ∧ ItKd k2 h (N + 1) b i) → ∀ c ∈ [N + 4, N + 2, N + 3, N, N + 1], ∃ o, h.get? c = some o ∧ ∀ v, o.data ≠ .cell v := fun i h st c hc => by
    obtain ⟨hz, hT, ⟨x, y, hO⟩, h1, h2⟩ := st
    have : c = N + 4 ∨ c = N + 2 ∨ c = N + 3 ∨ c = N ∨ c = N + 1 := by simpa using hc
    rcases this with rfl | rfl | rfl | rfl | rfl
    · exact ⟨_, hz, fun v q => nomatch q⟩
    · exact ⟨_, hT, fun v q => nomatch q⟩
    · exact ⟨_, hO, fun v q => nomatch q⟩
    · exact itKd_obj h1
    · exact itKd_obj h2
  refine ⟨by simp, ob, fun i h h' st k => ?_, ?_, ?_, fun A i s Q E st h => wpAny_pyIter_zip st.1 h⟩
  · obtain ⟨hz, hT, ⟨x, y, hO⟩, h1, h2⟩ := st
    exact ⟨k _ (by simp) _ hz, k _ (by simp) _ hT, ⟨x, y, k _ (by simp) _ hO⟩, itKd_at h1 fun o q => k N (by simp) o q, itKd_at h2 fun o q => k (N + 1) (by simp) o q⟩
  · intro X hP hW hK hc i pins s σ H E I hf st hg; subst hP hW hK
    obtain ⟨xs, ys, hx, hy, hi⟩ := hg
    obtain ⟨its, rv, p1, _⟩ := sq_get I hx
    obtain ⟨its2, rv2, p2, _⟩ := sq_get I hy
    have l1 := rv.length
    have l2 := rv2.length
    have D := WalksT.zipD2 S (draws_sq (prog := X.prog) (w := X.w) (A := X.A.in1) k1 (I.ok.hd hc) N a nea its.toArray) (draws_sq (A := X.A.in1) k2 (I.ok.hd hc) (N + 1) b neb its2.toArray)
    have old : ∀ c ∈ [N + 4, N + 2, N + 3, N, N + 1], c < s.heap.objs.size := fun c hc => let ⟨o, e, _⟩ := ob i _ st c hc; Heap.lt_size e
    obtain ⟨hz, hT, hO, h1, h2⟩ := st
    refine turn_item (Y := (Itzz X.K k1 k2 a b).yld i H) (tn := fun h => IsZip h (N + 4) (N + 2) (N + 3) .none ∧ IsTupOf2 h (N + 2) (.ref N) (.ref (N + 1)) ∧ (∃ x y, IsTupOf2 h (N + 3) x y) ∧ ItKd k1 h N a (i + 1) ∧ ItKd k2 h (N + 1) b (i + 1)) D I hf (by simp; omega) ⟨hz, hT, hO, ⟨h1, p1⟩, ⟨h2, p2⟩⟩ hw old (fun vals hv => ?_) fun h' st' => ⟨st'.1, st'.2.1, st'.2.2.1, st'.2.2.2.1.1, st'.2.2.2.2.1⟩
    obtain ⟨u1, u2, e1, e2, rfl⟩ := hv
    obtain ⟨x, ex, rx⟩ := vals_at rv e1
    obtain ⟨y, ey, ry⟩ := vals_at rv2 e2
    exact ⟨[x, y], .cons rx (.cons ry .nil), by show 2 ≤ sizeLine; decide, fun T hT => ⟨T, x, y, rfl, hT, rfl, fun l hl => by rw [sq_inj I hl hx]; exact ex, fun l hl => by rw [sq_inj I hl hy]; exact ey⟩⟩
  · intro X hP hW hK hc i pins s σ H E I hf st hg; subst hP hW hK
    obtain ⟨xs, ys, hx, hy, hi⟩ := hg
    obtain ⟨its, rv, p1, _⟩ := sq_get I hx
    obtain ⟨its2, rv2, p2, _⟩ := sq_get I hy
    have l1 := rv.length
    have l2 := rv2.length
    have D := WalksT.zipD2 S (draws_sq (prog := X.prog) (w := X.w) (A := X.A.in1) k1 (I.ok.hd hc) N a nea its.toArray) (draws_sq (A := X.A.in1) k2 (I.ok.hd hc) (N + 1) b neb its2.toArray)
    obtain ⟨hz, hT, hO, h1, h2⟩ := st
    have e : i = min its.toArray.size its2.toArray.size := by simp; omega
    exact turn_done D I hf ⟨hz, hT, hO, ⟨by rw [← e]; exact h1, p1⟩, ⟨by rw [← e]; exact h2, p2⟩⟩ hw
def iZipG (K : PySem.W.Frag) (ta : TA) : TI := fun σ H R => ta σ H fun vs H1 => ∃ k1 k2 a b xs ys, vs = [.ref a, .ref b] ∧ SqK K k1 H1 a xs ∧ SqK K k2 H1 b ys ∧ R (Itzz K k1 k2 a b) H1
theorem pi_zz {X : Cx} {e e2 : Expr} {ta : TA} {p pos tpos : Pos} {elts : List Expr} {kk : Nat} (hg : Gl X "zip") (hm : X.mg "zip" = none) (ha : PA X [e, e2] ta)
    (hs : starEach [e, e2] X.env = (false, eval e X.env) :: starEach [e2] X.env := by rfl) (hpl : (backTo pos (starEach [e2] X.env)).any (·.1) = false := by rfl) :
    PI X (.Tuple elts kk tpos) (.Call (.Name "zip" p) [e, e2] [] pos) (iZipG X.K ta) := by
  refine ⟨fun pins s σ H R I h => Call_ (ld_blt I hg hm boot_zip (callWith_type1 (thn (ha.run pos pins s σ H _ I h) fun us s1 ⟨vs, H1, I1, r1, k1, k2, a, b, xs, ys, ex, hx, hy, q1⟩ => ?_) hs hpl))⟩
  subst ex
  cases r1 with
  | cons r rr =>
    cases rr with
    | cons r' rr =>
      cases rr; cases r; cases r'
      obtain ⟨its, rv, p1, la⟩ := sq_get I1 hx
      obtain ⟨its2, rv2, p2, lb⟩ := sq_get I1 hy
      refine zip_begins2 (begins_sq k1 a its.toArray) (begins_sq k2 b its2.toArray) p1 p2 fun h' hz hTI hTO h1 h2 hsz hk => wpAny_pyIter_zip hz ?_
      refine ⟨_, _, _, _, H1, rfl, I1.kept (t' := s1.toks) hk, turn_zz k1 k2 la lb, ⟨hz, hTI, ⟨_, _, hTO⟩, itKd_new h1, itKd_new h2⟩, fun c hcm => ?_, q1⟩
      have : c = s1.heap.objs.size + 4 ∨ c = s1.heap.objs.size + 2 ∨ c = s1.heap.objs.size + 3 ∨ c = s1.heap.objs.size ∨ c = s1.heap.objs.size + 1 := by simpa using hcm
      have hle : s1.heap.objs.size ≤ c := by
        rcases this with rfl | rfl | rfl | rfl | rfl <;> first | exact Nat.le_add_right _ _ | exact Nat.le_refl _
      exact I1.fpOk hle (I1.hok.fresh hle)
/-- the parts of a list or a tuple -/
def seqD : D → Option (List D)
  | .lst xs => some xs
  | .tup xs => some xs
  | .arg xs => some xs
  | _ => none
theorem seqD_sq {K : PySem.W.Frag} {F : Hp} {v : V} {d : D} {xs : List D} (h : Rp K F v d) (e : seqD d = some xs) : ∃ k a vs, v = .ref a ∧ SqK K k F a vs ∧ Rps K F vs xs := by
  cases h with
  | tup t r => cases e; exact ⟨true, _, _, rfl, t.sq, r⟩
  | arg t r => cases e; exact ⟨true, _, _, rfl, t, r⟩
  | lst t r => cases e; exact ⟨false, _, _, rfl, SqL.of t, r⟩
  | _ => cases e
theorem FLe.sqK {K : PySem.W.Frag} {F G : Hp} (h : FLe F G) {k : Bool} {a : Addr} {xs : List V} (r : SqK K k F a xs) : SqK K k G a xs := by
  cases k
  · exact h.sqL r
  · exact h.sqT r
theorem iter_zz {K : PySem.W.Frag} {F : Hp} {k1 k2 : Bool} {a b : Addr} {vs ws : List V} {xs ys : List D} (ha : SqK K k1 F a vs) (hb : SqK K k2 F b ws) (rx : Rps K F vs xs) (ry : Rps K F ws ys) : IterOk K (Itzz K k1 k2 a b) F (pairUp xs ys) := by
  have at1 : ∀ {F1 H : Hp}, FLe F F1 → FLe F1 H → SqK K k1 H a vs := fun h1 h2 => h2.sqK (h1.sqK ha)
  have at2 : ∀ {F1 H : Hp}, FLe F F1 → FLe F1 H → SqK K k2 H b ws := fun h1 h2 => h2.sqK (h1.sqK hb)
  have lx := rx.length
  have ly := ry.length
  have lp : (pairUp xs ys).length = min xs.length ys.length := by unfold pairUp; rw [List.length_zipWith]
  refine ⟨fun i F1 H h1 h2 hi => ⟨vs, ws, at1 h1 h2, at2 h1 h2, by rw [lx, ly, ← lp]; exact hi⟩, fun F1 H h1 h2 => ⟨vs, ws, at1 h1 h2, at2 h1 h2, by rw [lx, ly, ← lp]⟩, fun i F1 H H' x d h1 h2 e y => ?_⟩
  obtain ⟨T, v, w, rfl, hT, rfl, g1, g2⟩ := y
  unfold pairUp at e
  rw [List.getElem?_zipWith] at e
  cases ex : xs[i]? with
  | none => rw [ex] at e; cases e
  | some dx =>
    cases ey : ys[i]? with
    | none => rw [ex, ey] at e; cases e
    | some dy =>
      rw [ex, ey] at e
      cases e
      obtain ⟨v', e1, r1⟩ := rx.get ex
      obtain ⟨w', e2, r2⟩ := ry.get ey
      have e3 := g1 vs (at1 h1 h2)
      have e4 := g2 ws (at2 h1 h2)
      rw [e1] at e3; cases e3
      rw [e2] at e4; cases e4
      have n := New.obj h2 hT (.tup [v, w])
      exact ⟨_, n, .arg (.inl (.inl upd_same)) (.cons (r1.mono (h1.trans n.f)) (.cons (r2.mono (h1.trans n.f)) .nil))⟩
def zipG : List D → Option (List D)
  | [x, y] => (seqD x).bind fun xs => (seqD y).map fun ys => pairUp xs ys
  | _ => none
def iZipX (s : SA) : SA := fun ρ => (s ρ).bind fun ds ρ' => ofO (zipG ds) ρ'
@[simp] theorem ev_iZipX (s : SA) (ρ : Env) : iZipX s ρ = (s ρ).bind fun ds ρ' => ofO (zipG ds) ρ' := rfl
section
variable {ex : Exx} {X : Cx} {W : WX} {e : Expr} {p pos : Pos} {sA : SA}
theorem d_iZipX {e2 : Expr} {elts : List Expr} {kk : Nat} {tpos : Pos} (hg : Gl X "zip") (hm : X.mg "zip" = none) (ha : DA (GK X ex) X W [e, e2] sA) (hs : starEach [e, e2] X.env = (false, eval e X.env) :: starEach [e2] X.env := by rfl) (hpl : (backTo pos (starEach [e2] X.env)).any (·.1) = false := by rfl) :
    DI (GK X ex) X W (.Tuple elts kk tpos) (.Call (.Name "zip" p) [e, e2] [] pos) (iZipX sA) :=
  wkI (pi_zz hg hm ha hs hpl) fun σ H Q ⟨ρ, F, Rv, io, rel, q⟩ => by
    refine ⟨ρ, F, Rv, io, rel, ?_⟩
    rw [ev_iZipX] at q
    cases e1 : sA ρ with
    | stuck => rw [e1] at q; exact q.elim
    | exc x ρ' => rw [e1] at q; exact q
    | ok ds ρ' =>
      rw [e1, R.bind_ok] at q
      intro vs H' F' le rel' rs
      cases e3 : zipG ds with
      | none => rw [e3] at q; exact q.elim
      | some zs =>
        rw [e3] at q
        unfold zipG at e3
        split at e3
        · rename_i x y
          cases ea : seqD x with
          | none => rw [ea] at e3; cases e3
          | some xs =>
            cases eb : seqD y with
            | none => rw [ea, eb] at e3; cases e3
            | some ys =>
              rw [ea, eb] at e3
              cases e3
              cases rs with
              | cons r1 rs =>
                cases rs with
                | cons r2 rs =>
                  cases rs
                  obtain ⟨k1, a, us, rfl, s1, q1⟩ := seqD_sq r1 ea
                  obtain ⟨k2, b, ws, rfl, s2, q2⟩ := seqD_sq r2 eb
                  exact ⟨k1, k2, a, b, us, ws, rfl, rel'.fH.sqK s1, rel'.fH.sqK s2, q _ H' F' le rel' (iter_zz s1 s2 q1 q2)⟩
        · cases e3
end
end Dt

set_option Elab.async false
set_option linter.all false
set_option maxRecDepth 100000
set_option maxHeartbeats 4000000
/-! enumerate of lists and tuples alike; range with a step below; max of a list; order of data; two new lists at once; while without a bound. -/
namespace Dt
open PySem PySem.Spec PyProof.Rows L2
/-! ### enumerate -/
theorem enum_new1 {v : Value} {o : Obj} {H : Heap → Prop} (B : Begins v o H) :
    Meets (Builtin.«enumerate.__new__» ⟨[.type "enumerate", v], []⟩) (fun _ R s => H s.heap ∧ R (.ok (.ret (.ref (s.heap.push o).objs.size)))
        { s with heap := (s.heap.push o).push { cls := .type "enumerate", data := .fields #[.none, .bool false, .ref s.heap.objs.size, rawInt 0, .none, .none] } }) :=
  .of_wp fun prog w A R s h => by
    obtain ⟨hp, g, d, tk, os⟩ := s
    obtain ⟨h1, h⟩ := h
    have hs := sub_enumerate
    have q1 : ∀ {A' : Around} {E : Value → Shared → Prop} {Q : Value → Shared → Prop}, Q (.ref hp.objs.size) ⟨hp.push o, g, d, tk, os⟩ → wpAny (model prog w) A' (pyIter v) Q E ⟨hp, g, d, tk, os⟩ := fun q => B.iter prog w _ _ ⟨hp, g, d, tk, os⟩ _ h1 q
    wp_walk using q1
    refine wpAny_stack_any fun st => wpAny_pure ?_
    split
    · rename_i c _ _ _ _ _
      cases (c == Value.type "enumerate") <;> (wp_walk using q1; exact ⟨_, rfl, h⟩)
    · wp_walk using q1
      exact ⟨_, rfl, h⟩
theorem call_enum1 {prog : Program} {w : World} {A : Around} {E : Value → Shared → Prop} {s : Shared} {v : Value} {o : Obj} {H : Heap → Prop} {Q : Value → Shared → Prop} (B : Begins v o H) (h1 : H s.heap)
    (h : ∀ h', IsEnum h' (s.heap.objs.size + 1) s.heap.objs.size 0 .none → h'.get? s.heap.objs.size = some o → (∀ b o, s.heap.get? b = some o → h'.get? b = some o) → Q (.ref (s.heap.objs.size + 1)) { s with heap := h' }) :
    wpAny (model prog w) A (call (.type "enumerate") [v]) Q E s := by
  refine callType_new F.called_enumerate (by decide) (F.typeCall_enumerate_1 _) (F.newCall_enumerate_1 _) (fun obj => F.args_object_init_2 obj _) F.entry_enumerate_new (enum_new1 B) ⟨h1, ?_⟩
  have hz : (s.heap.push o).objs.size = s.heap.objs.size + 1 := Heap.size_push ..
  show _ ∧ _
  rw [hz]
  have he := Heap.get?_push_size (s.heap.push o) (o := { cls := .type "enumerate", data := .fields #[.none, .bool false, .ref s.heap.objs.size, rawInt 0, .none, .none] }) rfl
  rw [hz] at he
  exact ⟨⟨_, he, rfl⟩, h _ he (Heap.get?_push_of_some _ (Heap.get?_push_size _ B.free)) fun b o x => Heap.get?_push_of_some _ (Heap.get?_push_of_some _ x)⟩
def Iten (K : PySem.W.Frag) (k : Bool) (a : Addr) : It :=
  ⟨fun i H => ∃ xs : List V, SqK K k H a xs ∧ i < xs.length, fun i H v H' => ∃ T x, v = .ref T ∧ H T = none ∧ H' = upd H T (.tup [.int (i : Nat), x]) ∧ ∀ xs, SqK K k H a xs → xs[i]? = some x, fun i H => ∃ xs : List V, SqK K k H a xs ∧ i = xs.length⟩
theorem turn_en {P : Program} {w : World} {K : PySem.W.Frag} {elts : List Expr} {kk : Nat} {tpos : Pos} {a N : Addr} (k : Bool) (ha : a < N) :
    Turn P w K (.Tuple elts kk tpos) (Iten K k a) [N + 1, N] (N + 1) (fun i h => (∃ old, IsEnum h (N + 1) N ((i : Nat) : Int) old) ∧ ItKd k h N a i) := by
  have nea : a ≠ N := Nat.ne_of_lt ha
  have hei : N + 1 ≠ N := Nat.succ_ne_self N
  have hef : N + 1 ∉ [N, a] := by
    intro z
    have : N + 1 = N ∨ N + 1 = a := by simpa using z
    rcases this with z | z
    · exact hei z
    · exact Nat.lt_irrefl N (Nat.lt_trans (Nat.lt_of_lt_of_eq (Nat.lt_succ_self N) z) ha)
  have hw : ∀ c ∈ [N + 1, N], c ∈ [N + 1, N] := fun c hc => hc
  have ob : ∀ i h, ((∃ old, IsEnum h (N + 1) N ((i : Nat) : Int) old) ∧ ItKd k h N a i) → ∀ c ∈ [N + 1, N], ∃ o, h.get? c = some o ∧ ∀ v, o.data ≠ .cell v := fun i h st c hc => by
    obtain ⟨⟨old, he⟩, h1⟩ := st
    have : c = N + 1 ∨ c = N := by simpa using hc
    rcases this with rfl | rfl
    · exact ⟨_, he, fun v q => nomatch q⟩
    · exact itKd_obj h1
  refine ⟨by simp, ob, fun i h h' st q => ?_, ?_, ?_, fun A i s Q E st h => let ⟨⟨_, he⟩, _⟩ := st; wpAny_pyIter_enum he h⟩
  · obtain ⟨⟨old, he⟩, h1⟩ := st
    exact ⟨⟨old, q _ (by simp) _ he⟩, itKd_at h1 fun o e => q N (by simp) o e⟩
  · intro X hP hW hK hc i pins s σ H E I hf st hg; subst hP hW hK
    obtain ⟨xs, hx, hi⟩ := hg
    obtain ⟨its, rv, p1, _⟩ := sq_get I hx
    have l1 := rv.length
    have D := WalksT.enumerateD (draws_sq (prog := X.prog) (w := X.w) (A := X.A.in1) k (I.ok.hd hc) N a nea its.toArray) (N + 1) hei hef (by simp)
    have old : ∀ c ∈ [N + 1, N], c < s.heap.objs.size := fun c hc => let ⟨o, e, _⟩ := ob i _ st c hc; Heap.lt_size e
    obtain ⟨he, h1⟩ := st
    refine turn_item (Y := (Iten X.K k a).yld i H) (tn := fun h => (∃ old, IsEnum h (N + 1) N ((i + 1 : Nat) : Int) old) ∧ ItKd k h N a (i + 1)) D I hf (by simp; omega) ⟨he, h1, p1⟩ hw old (fun vals hv => ?_) fun h' st' => ⟨st'.1, st'.2.1⟩
    obtain ⟨t, u, e1, rfl⟩ := hv
    obtain ⟨x, ex, rx⟩ := vals_at rv e1
    exact ⟨[.int (i : Nat), x], .cons ⟨_, rfl⟩ (.cons rx .nil), by show 2 ≤ sizeLine; decide, fun T hT => ⟨T, x, rfl, hT, rfl, fun l hl => by rw [sq_inj I hl hx]; exact ex⟩⟩
  · intro X hP hW hK hc i pins s σ H E I hf st hg; subst hP hW hK
    obtain ⟨xs, hx, hi⟩ := hg
    obtain ⟨its, rv, p1, _⟩ := sq_get I hx
    have l1 := rv.length
    have D := WalksT.enumerateD (draws_sq (prog := X.prog) (w := X.w) (A := X.A.in1) k (I.ok.hd hc) N a nea its.toArray) (N + 1) hei hef (by simp)
    obtain ⟨he, h1⟩ := st
    have e : i = its.toArray.size := by simp; omega
    exact turn_done D I hf ⟨by rw [← e]; exact he, by rw [← e]; exact h1, p1⟩ hw
def iEnumG (K : PySem.W.Frag) (ta : TA) : TI := fun σ H R => ta σ H fun vs H1 => ∃ k a xs, vs = [.ref a] ∧ SqK K k H1 a xs ∧ R (Iten K k a) H1
theorem pi_en {X : Cx} {e : Expr} {ta : TA} {p pos tpos : Pos} {elts : List Expr} {kk : Nat} (hg : Gl X "enumerate") (hm : X.mg "enumerate" = none) (ha : PA X [e] ta) (hs : starEach [e] X.env = [(false, eval e X.env)] := by rfl) :
    PI X (.Tuple elts kk tpos) (.Call (.Name "enumerate" p) [e] [] pos) (iEnumG X.K ta) := by
  refine ⟨fun pins s σ H R I h => Call_ (ld_blt I hg hm boot_enumerate (callWith_type1 (thn (ha.run pos pins s σ H _ I h) fun us s1 ⟨vs, H1, I1, r1, k, a, xs, ex, hx, q1⟩ => ?_) hs rfl))⟩
  subst ex
  cases r1 with
  | cons r rr =>
    cases rr; cases r
    obtain ⟨its, rv, p1, la⟩ := sq_get I1 hx
    refine call_enum1 (begins_sq k a its.toArray) p1 fun h' he hi hk => wpAny_pyIter_enum he ?_
    refine ⟨_, _, _, _, H1, rfl, I1.kept (t' := s1.toks) hk, turn_en k la, ⟨⟨.none, he⟩, itKd_new hi⟩, fun c hcm => ?_, q1⟩
    have : c = s1.heap.objs.size + 1 ∨ c = s1.heap.objs.size := by simpa using hcm
    have hle : s1.heap.objs.size ≤ c := by
      rcases this with rfl | rfl <;> first | exact Nat.le_add_right _ _ | exact Nat.le_refl _
    exact I1.fpOk hle (I1.hok.fresh hle)
def numbered : Nat → List D → List D
  | _, [] => []
  | n, d :: ds => .arg [.int (n : Nat), d] :: numbered (n + 1) ds
theorem numbered_get : ∀ {n i : Nat} {ds : List D} {d : D}, (numbered n ds)[i]? = some d → ∃ z, ds[i]? = some z ∧ d = .arg [.int ((n + i : Nat) : Int), z]
  | _, _, [], _, h => by simp [numbered] at h
  | n, 0, z :: ds, d, h => by simp [numbered] at h; exact ⟨z, rfl, by simpa using h.symm⟩
  | n, i + 1, z :: ds, d, h => by
    simp only [numbered, List.getElem?_cons_succ] at h
    obtain ⟨y, e1, e2⟩ := numbered_get h
    exact ⟨y, by simpa using e1, by rw [e2]; congr 3; omega⟩
theorem numbered_len : ∀ {n : Nat} {ds : List D}, (numbered n ds).length = ds.length
  | _, [] => rfl
  | n, d :: ds => by simp [numbered, numbered_len]
theorem iter_en {K : PySem.W.Frag} {F : Hp} {k : Bool} {a : Addr} {vs : List V} {xs : List D} (ha : SqK K k F a vs) (rx : Rps K F vs xs) : IterOk K (Iten K k a) F (numbered 0 xs) := by
  have at1 : ∀ {F1 H : Hp}, FLe F F1 → FLe F1 H → SqK K k H a vs := fun h1 h2 => h2.sqK (h1.sqK ha)
  have lx := rx.length
  refine ⟨fun i F1 H h1 h2 hi => ⟨vs, at1 h1 h2, by rw [lx]; rw [numbered_len] at hi; exact hi⟩, fun F1 H h1 h2 => ⟨vs, at1 h1 h2, by rw [lx, numbered_len]⟩, fun i F1 H H' x d h1 h2 e y => ?_⟩
  obtain ⟨T, v, rfl, hT, rfl, g1⟩ := y
  obtain ⟨z, ez, rfl⟩ := numbered_get e
  obtain ⟨v', e1, r1⟩ := rx.get ez
  have e3 := g1 vs (at1 h1 h2)
  rw [e1] at e3; cases e3
  have n := New.obj h2 hT (.tup [.int (i : Nat), v])
  refine ⟨_, n, .arg (.inl (.inl upd_same)) (.cons ?_ (.cons (r1.mono (h1.trans n.f)) .nil))⟩
  rw [Nat.zero_add]
  exact .int _
def enumD : List D → Option (List D)
  | [x] => (seqD x).map (numbered 0)
  | _ => none
def iEnumX (s : SA) : SA := fun ρ => (s ρ).bind fun ds ρ' => ofO (enumD ds) ρ'
@[simp] theorem ev_iEnumX (s : SA) (ρ : Env) : iEnumX s ρ = (s ρ).bind fun ds ρ' => ofO (enumD ds) ρ' := rfl
section
variable {ex : Exx} {X : Cx} {W : WX} {a b c e tg : Expr} {p pos : Pos} {sA : SA} {G : Gx}
theorem d_iEnumX {elts : List Expr} {kk : Nat} {tpos : Pos} (hg : Gl X "enumerate") (hm : X.mg "enumerate" = none) (ha : DA (GK X ex) X W [e] sA) (hs : starEach [e] X.env = [(false, eval e X.env)] := by rfl) :
    DI (GK X ex) X W (.Tuple elts kk tpos) (.Call (.Name "enumerate" p) [e] [] pos) (iEnumX sA) :=
  wkI (pi_en hg hm ha hs) fun σ H Q ⟨ρ, F, Rv, io, rel, q⟩ => by
    refine ⟨ρ, F, Rv, io, rel, ?_⟩
    rw [ev_iEnumX] at q
    cases e1 : sA ρ with
    | stuck => rw [e1] at q; exact q.elim
    | exc x ρ' => rw [e1] at q; exact q
    | ok ds ρ' =>
      rw [e1, R.bind_ok] at q
      intro vs H' F' le rel' rs
      cases e3 : enumD ds with
      | none => rw [e3] at q; exact q.elim
      | some zs =>
        rw [e3] at q
        unfold enumD at e3
        split at e3
        · rename_i x
          cases ea : seqD x with
          | none => rw [ea] at e3; cases e3
          | some xs =>
            rw [ea] at e3
            cases e3
            cases rs with
            | cons r1 rs =>
              cases rs
              obtain ⟨k, a, us, rfl, s1, q1⟩ := seqD_sq r1 ea
              exact ⟨k, a, us, rfl, rel'.fH.sqK s1, q _ H' F' le rel' (iter_en s1 q1)⟩
        · cases e3
/-! ### range(i, j, -1) -/
def downto (lo : Int) (n : Nat) : List D := (List.range n).map fun i => .int (lo + (i : Nat) * (-1))
theorem iter_down {K : PySem.W.Frag} {F : Hp} {lo : Int} {n : Nat} : IterOk K (Itc lo (-1) n) F (downto lo n) := by
  refine ⟨fun i F1 H h1 h2 hi => by simpa [downto, Itc] using hi, fun F1 H h1 h2 => by simp [downto, Itc], fun i F1 H H' x d h1 h2 e y => ?_⟩
  obtain ⟨e1, rfl⟩ := y
  rw [e1]
  refine ⟨F1, New.refl h2, ?_⟩
  unfold downto at e
  rw [List.getElem?_map] at e
  have hi : i < n := by
    by_cases h : i < n
    · exact h
    · rw [List.getElem?_eq_none (by simp; omega)] at e; cases e
  rw [List.getElem?_range hi] at e
  cases e
  exact .int _
def rng3D : List D → Option (List D)
  | [.int i, .int j, .int k] => if k = -1 ∧ -(2 ^ 62) ≤ i ∧ i < 2 ^ 62 ∧ -(2 ^ 62) ≤ j ∧ j < 2 ^ 62 then some (downto i (i - j).toNat) else none
  | _ => none
def iRng3' (s : SA) : SA := fun ρ => (s ρ).bind fun ds ρ' => ofO (rng3D ds) ρ'
@[simp] theorem ev_iRng3 (s : SA) (ρ : Env) : iRng3' s ρ = (s ρ).bind fun ds ρ' => ofO (rng3D ds) ρ' := rfl
theorem d_iRng3 (hg : Gl X "range") (hm : X.mg "range" = none) (ha : DA (GK X ex) X W [a, b, c] sA) (hs : starEach [a, b, c] X.env = (false, eval a X.env) :: starEach [b, c] X.env := by rfl) (hpl : (backTo pos (starEach [b, c] X.env)).any (·.1) = false := by rfl) :
    DI (GK X ex) X W tg (.Call (.Name "range" p) [a, b, c] [] pos) (iRng3' sA) :=
  wkI (pi_range3 hg hm ha hs hpl) fun σ H Q ⟨ρ, F, Rv, io, rel, q⟩ => by
    refine ⟨ρ, F, Rv, io, rel, ?_⟩
    rw [ev_iRng3] at q
    cases e : sA ρ with
    | stuck => rw [e] at q; exact q.elim
    | exc x ρ' => rw [e] at q; exact q
    | ok ds ρ' =>
      rw [e, R.bind_ok] at q
      intro vs H' F' le rel' rp
      cases e2 : rng3D ds with
      | none => rw [e2] at q; exact q.elim
      | some zs =>
        rw [e2] at q
        unfold rng3D at e2
        split at e2
        · rename_i i j k
          split at e2
          · rename_i hj
            cases e2
            obtain ⟨rfl, h1, h2, h3, h4⟩ := hj
            cases rp with
            | cons r rr => cases rr with
              | cons r2 rr => cases rr with
                | cons r3 rr => cases rr; cases r; cases r2; cases r3; exact ⟨i, j, -1, _, rfl, RgC.neg h1 h2 h3 h4, q _ H' F' le rel' iter_down⟩
          · cases e2
        · cases e2
/-! ### max(xs) -/
def maxI : List Int → Int
  | [] => 0
  | [x] => x
  | x :: y :: r => if maxI (y :: r) ≤ x then x else maxI (y :: r)
theorem maxI_ge : ∀ {ns : List Int} {y : Int}, y ∈ ns → y ≤ maxI ns
  | [x], y, h => by simp at h; subst h; exact Int.le_refl _
  | x :: z :: r, y, h => by
    unfold maxI
    rcases List.mem_cons.mp h with rfl | h
    · split <;> omega
    · have := maxI_ge h
      split <;> omega
theorem maxI_mem : ∀ {ns : List Int}, ns ≠ [] → maxI ns ∈ ns
  | [x], _ => by simp [maxI]
  | x :: z :: r, _ => by
    unfold maxI
    split
    · exact List.mem_cons_self
    · exact List.mem_cons_of_mem _ (maxI_mem (by simp))
def gMaxL : List D → Option D
  | [.lst xs] => (intsOf xs).bind fun ns => if ns = [] then none else some (.int (maxI ns))
  | _ => none
theorem psem_maxL : PSem G (rMax G.K) gMaxL := fun F H vs ds d Q fh vw e q => by
  unfold gMaxL at e
  split at e
  · rename_i xs
    cases e1 : intsOf xs with
    | none => rw [e1] at e; cases e
    | some ns =>
      rw [e1, Option.bind_some] at e
      split at e
      · cases e
      · rename_i hn
        cases e
        obtain ⟨v, rfl, h⟩ := vw.one
        obtain ⟨a, zs, rfl, t, r⟩ := h.lst fh
        have ez := ints_vw r e1
        subst ez
        refine ⟨a, ns, rfl, SqL.of t, List.length_pos_iff.mpr hn, fun m h1 h2 => ?_⟩
        have : m = maxI ns := Int.le_antisymm (maxI_ge h1) (h2 _ (maxI_mem hn))
        rw [this]
        exact fin_flat fh q (.int _)
  · cases e
/-! ### order of data -/
def cmpOk (x y : PyData) : Bool := PySem.W.alike x y && !(x matches .none) && decide (min x.depth y.depth < 60)
def gGtD : List D → Option D
  | [x, y] => x.py.bind fun a => y.py.bind fun b => if cmpOk a b = true then some (.bl (PySem.W.dataLt b a)) else none
  | _ => none
def gLtD : List D → Option D
  | [x, y] => x.py.bind fun a => y.py.bind fun b => if cmpOk a b = true then some (.bl (PySem.W.dataLt a b)) else none
  | _ => none
def rCmpD (K : PySem.W.Frag) (f : PyData → PyData → Bool) : R2 := fun x y H Q => ∃ a b, Dp K H x a ∧ Dp K H y b ∧ cmpOk a b = true ∧ Q (.bl (f a b)) H
theorem cmpOk_out {x y : PyData} (h : cmpOk x y = true) : PySem.W.alike x y = true ∧ x ≠ .none ∧ min x.depth y.depth < 60 := by
  unfold cmpOk at h
  rw [Bool.and_eq_true, Bool.and_eq_true] at h
  exact ⟨h.1.1, fun z => by subst z; exact absurd h.1.2 (by decide), by simpa using h.2⟩
theorem op_gtD (hu : X.A.units + 64 < cLine) : OpR X (compareOp .Gt) (rCmpD X.K fun a b => PySem.W.dataLt b a) := by
  intro pins s σ H x y v u Q I rx ry ⟨a, b, ha, hb, hc, q⟩
  obtain ⟨as, r1⟩ := Dp.reads I a x v ha rx
  obtain ⟨bs, r2⟩ := Dp.reads I b y u hb ry
  obtain ⟨c1, c2, c3⟩ := cmpOk_out hc
  exact PySem.W.gt_data r1 r2 c1 c2 (by omega) ⟨.bl _, H, I, rfl, q⟩
theorem op_ltD (hu : X.A.units + 64 < cLine) : OpR X (compareOp .Lt) (rCmpD X.K fun a b => PySem.W.dataLt a b) := by
  intro pins s σ H x y v u Q I rx ry ⟨a, b, ha, hb, hc, q⟩
  obtain ⟨as, r1⟩ := Dp.reads I a x v ha rx
  obtain ⟨bs, r2⟩ := Dp.reads I b y u hb ry
  obtain ⟨c1, c2, c3⟩ := cmpOk_out hc
  exact PySem.W.lt_data r1 r2 c1 c2 (by omega) ⟨.bl _, H, I, rfl, q⟩
theorem psem_gtD : PSem G (r2L (rCmpD G.K fun a b => PySem.W.dataLt b a)) gGtD := fun F H vs ds d Q fh vw e q => by
  unfold gGtD at e
  split at e
  · rename_i x y
    cases e1 : x.py with
    | none => rw [e1] at e; cases e
    | some a =>
      cases e2 : y.py with
      | none => rw [e1, e2] at e; cases e
      | some b =>
        rw [e1, e2, Option.bind_some, Option.bind_some] at e
        split at e
        · rename_i hc
          cases e
          obtain ⟨v, w, rfl, h1, h2⟩ := vw.two
          exact ⟨v, w, rfl, a, b, h1.dp fh e1, h2.dp fh e2, hc, fin_flat fh q (.bl _)⟩
        · cases e
  · cases e
theorem psem_ltD : PSem G (r2L (rCmpD G.K fun a b => PySem.W.dataLt a b)) gLtD := fun F H vs ds d Q fh vw e q => by
  unfold gLtD at e
  split at e
  · rename_i x y
    cases e1 : x.py with
    | none => rw [e1] at e; cases e
    | some a =>
      cases e2 : y.py with
      | none => rw [e1, e2] at e; cases e
      | some b =>
        rw [e1, e2, Option.bind_some, Option.bind_some] at e
        split at e
        · rename_i hc
          cases e
          obtain ⟨v, w, rfl, h1, h2⟩ := vw.two
          exact ⟨v, w, rfl, a, b, h1.dp fh e1, h2.dp fh e2, hc, fin_flat fh q (.bl _)⟩
        · cases e
  · cases e
/-! ### a, b = [], [] -/
def sNew2 (i j : Nat) : SS := fun ρ => (gOwn i (.lst []) ρ).bind fun _ ρ2 => (gOwn j (.lst []) ρ2).bind fun _ ρ3 => .ok .nx ρ3
@[simp] theorem ev_new2 (i j : Nat) (ρ : Env) : sNew2 i j ρ = (gOwn i (.lst []) ρ).bind fun _ ρ2 => (gOwn j (.lst []) ρ2).bind fun _ ρ3 => .ok .nx ρ3 := rfl
theorem d_new2 {i j : Nat} {x y : Str} {p1 p2 px py pt : Pos} {kt k2 pt2} (hu : At X W) (hi : X.N[i]? = some x) (hj : X.N[j]? = some y) (hij : i ≠ j) (hx : X.env.scope.names.lookup x = some .local) (hy : X.env.scope.names.lookup y = some .local)
    (hw : swappedStores [.Tuple [.Name x px, .Name y py] kt pt] (.Tuple [.List [] p1, .List [] p2] k2 pt2) X.env = pure (some [x, y])) (hs : swapsWithSole [.Tuple [.Name x px, .Name y py] kt pt] (.Tuple [.List [] p1, .List [] p2] k2 pt2) pos.line X.env = pure false := by rfl) :
    DS (GK X ex) X W (.Assign [.Tuple [.Name x px, .Name y py] kt pt] (.Tuple [.List [] p1, .List [] p2] k2 pt2) pos) (sNew2 i j) :=
  wkS (ps_par hu.calm hu.nd hi hj hij hx hy (pa_cons (d_lstF (W := W) (ex := ex) d_nil) (pa_cons (d_lstF (W := W) (ex := ex) d_nil) pa_nil)) hw hs) fun D σ H ⟨ρ, F, Rv, io, rel, q⟩ => by
    rw [ev_new2] at q
    have l0 : sLst sNil ρ = .ok (.lst []) ρ := by rw [ev_lst, ev_nil, R.bind_ok]; exact if_pos (Nat.zero_le _)
    refine ⟨ρ, F, Rv, io, rel, ?_⟩
    rw [l0]
    intro p H1 F1 le1 rel1 ow lo
    obtain ⟨o, ho, oo⟩ := ow.at_
    refine ⟨ρ, F1, _, io, rel1.keep ho oo ow.nF lo, ?_⟩
    rw [l0]
    intro p' H2 F2 le2 rel2 ow' lo'
    obtain ⟨relD, n1, n2, lo2⟩ := rel2.resDrop ow.nR
    have ne : p' ≠ p := fun z => by have w := ow'.nR; rw [z, upd_same] at w; cases w
    have nR' : Rv p' = none := by have w := ow'.nR; rw [upd_ne ne] at w; exact w
    refine ⟨_, _, rfl, ?_⟩
    cases e1 : gOwn i (.lst []) ρ with
    | stuck => rw [e1] at q; exact q.elim
    | exc x ρ'' => unfold gOwn at e1; split at e1 <;> cases e1
    | ok u ρ2 =>
      rw [e1, R.bind_ok] at q
      obtain ⟨h1, rfl⟩ := gOwn_ok e1
      cases e2 : gOwn j (.lst []) (ρ.set i (.own (.lst []))) with
      | stuck => rw [e2] at q; exact q.elim
      | exc x ρ'' => unfold gOwn at e2; split at e2 <;> cases e2
      | ok u ρ3 =>
        rw [e2, R.bind_ok] at q
        obtain ⟨h2, rfl⟩ := gOwn_ok e2
        have r1 := relD.setOwn (i := i) (p := p) (d := .lst []) ⟨n1, ow.nR, o, n2, oo.mono le2⟩ lo2 h1
        refine q _ H2 F2 (le1.trans le2) (r1.setOwn ⟨ow'.nF, nR', ow'.at_⟩ (fun m c d e3 e4 e5 => ?_) h2)
        rw [List.getElem?_set] at e3 e5
        by_cases z : i = m
        · rw [if_pos z] at e5
          split at e5
          · cases e5; exact ne rfl
          · cases e5
        · rw [if_neg z] at e3 e5; exact lo' m c d e3 e4 e5
end
/-! ### while, however long it runs -/
open Classical in
noncomputable def sWhileT (t : ST) (s : SS) : SS := fun ρ => if h : ∃ n, sWhile t s n ρ ≠ .stuck then sWhile t s h.choose ρ else .stuck
theorem while_more {t : ST} {s : SS} : ∀ {n m : Nat} {ρ : Env}, sWhile t s n ρ ≠ .stuck → n ≤ m → sWhile t s m ρ = sWhile t s n ρ
  | 0, _, _, h, _ => absurd rfl h
  | n + 1, 0, _, _, hm => by omega
  | n + 1, m + 1, ρ, h, hm => by
    unfold sWhile at h ⊢
    cases e : t ρ with
    | stuck => rfl
    | exc x ρ1 => rfl
    | ok k ρ1 =>
      rw [e, R.bind_ok] at h
      rw [R.bind_ok, R.bind_ok]
      cases k with
      | false => rfl
      | true =>
        simp only at h ⊢
        cases e2 : s ρ1 with
        | stuck => rfl
        | exc x ρ2 => rfl
        | ok f ρ2 =>
          rw [e2, R.bind_ok] at h
          rw [R.bind_ok, R.bind_ok]
          cases f with
          | nx => exact while_more h (by omega)
          | ct => exact while_more h (by omega)
          | bk => rfl
          | rt d => rfl
theorem while_T {t : ST} {s : SS} {n : Nat} {ρ : Env} {r : R Fl} (h : sWhile t s n ρ = r) (hr : r ≠ .stuck) : sWhileT t s ρ = r := by
  have hx : ∃ n, sWhile t s n ρ ≠ .stuck := ⟨n, by rw [h]; exact hr⟩
  unfold sWhileT
  rw [dif_pos hx]
  have h1 := hx.choose_spec
  rcases Nat.le_total n hx.choose with z | z
  · rw [← h]; exact while_more (by rw [h]; exact hr) z
  · rw [← h]; exact (while_more h1 z).symm
theorem d_whileT {ex : Exx} {X : Cx} {W : WX} {c : Expr} {pos : Pos} {t : ST} {body : List Stmt} {s : SS} (hp : PassesOwn (model X.prog X.w) X.A X.env X.xe) (hc : DT (GK X ex) X W c t) (hb : DSs (GK X ex) X W body s) : DS (GK X ex) X W (.While c body [] pos) (sWhileT t s) :=
  ⟨fun pins s0 σ H D I ⟨ρ, F, Rv, io, rel, q⟩ => by
    unfold sWhileT at q
    by_cases hx : ∃ n, sWhile t s n ρ ≠ .stuck
    · rw [dif_pos hx] at q
      exact (d_while hx.choose hp hc hb).run pins s0 σ H D I ⟨ρ, F, Rv, io, rel, q⟩
    · rw [dif_neg hx] at q; exact q.elim⟩
end Dt

set_option Elab.async false
set_option linter.all false
set_option maxRecDepth 100000
set_option maxHeartbeats 4000000
/-! raise of the package's exceptions (classes below ValueError without an __init__ of their own). -/
namespace Dt
open PySem PySem.Spec PyProof.Rows L2
def veB : List Value := [.type "ValueError", .type "Exception", .type "BaseException", .type "object"]
/-- where the classes lie -/
def exA (K : PySem.W.Frag) (n : String) : Addr := fnA K (Str.ofString n)
/-- the class of that name, as it stands -/
structure ExcK (K : PySem.W.Frag) (mg : Str → Option Value) (n : String) : Prop where
  m : mg (Str.ofString n) = some (.ref (exA K n))
  e : PySem.W.excIn K (exA K n) veB "ValueError.__new__" = true
  k : PySem.W.keepIn K (.ref (exA K n)) = true
  b : PySem.W.subIn K (.ref (exA K n)) (.type "BaseException") = some true
  t : PySem.W.typeIn K (.ref (exA K n)) = some (.type "type")
/-- raise X("m") -/
def sRaise (n : String) : SS := fun ρ => .exc ⟨n, .non⟩ ρ
@[simp] theorem ev_raise (n : String) (ρ : Env) : sRaise n ρ = .exc ⟨n, .non⟩ ρ := rfl
theorem d_raise {T : List (Addr × Str)} {X : Cx} {W : WX} {n : String} {m : Str} {j : Nat} {p p2 pos rpos : Pos} (hu : At X W) (c : ExcK X.K X.mg n) (hg : Gl X (Str.ofString n)) (hd : (Str.ofString n == ("__debug__" : Str)) = false := by decide) :
    DS (GK X ⟨exA X.K, T⟩) X W (.Raise (some (.Call (.Name (Str.ofString n) p) [.Constant (.str m) j p2] [] pos)) none rpos) (sRaise n) :=
  wkS (L2N.ps_raise hu.calm hu.tk (L2N.pmk_own PySem.F.excBase_ValueError c.e c.m c.k (raises_own c.b c.t) hg hd)) fun D σ H ⟨ρ, F, Rv, io, rel, q⟩ => q (.ref (exA X.K n)) none σ H F (FLe.refl F) rel ⟨rfl, rfl⟩
end Dt

set_option Elab.async false
set_option linter.all false
set_option maxRecDepth 100000
set_option maxHeartbeats 4000000
/-! While an exception is handled: ends of iterations, tuples unpacked, zip, list comprehensions. -/
namespace Dt
open PySem PySem.Spec PyProof.Rows L2 HotX
section
variable {prog : Program} {w : World} {A : Around} {E : Value → Shared → Prop} {s : Shared} {x1 : Addr}
/-- the end of an iteration, raised while x1 is handled -/
theorem stop_hot {α : Type} {Q : α → Shared → Prop} (hot : HotAt A x1 s.heap)
    (h : ∀ h' e, (∀ b o, s.heap.get? b = some o → h'.get? b = some o) → (∃ o, h'.get? e = some o ∧ o.cls = .type "StopIteration") → E (.ref e) { s with heap := h' }) :
    wpAny (model prog w) A (newExc (.type "StopIteration") [] >>= fun e => (raiseNew e : Sem α)) Q E s := by
  obtain ⟨hh, o1, vs1, h1, d1, c1⟩ := hot
  have up : ∀ {h : Heap} (o o' : Obj) (b : Addr) (ob : Obj), h.get? b = some ob → ((h.push o).push o').get? b = some ob := fun o o' b ob e => Heap.get?_push_of_some _ (Heap.get?_push_of_some _ e)
  refine wpAny_bind ?_; simp only [newExc, newTuple]
  refine wpAny_bind (wpAny_newObj_type (wpAny_bind (m := firstArgMember _ _) (wpAny_of_eq (a := Value.none) (by first | rfl | (simp only [firstArgMember]; rfl)) (wpAny_newObj_type ?_ (by size_fits)))) (by size_fits))
  refine raiseNew_hot ⟨hh, o1, vs1, up _ _ _ _ h1, d1, c1⟩ (Nat.ne_of_lt (Heap.lt_size (Heap.get?_push_of_some _ h1))) (Heap.get?_push_size _ rfl) rfl (by first | (simp; done) | (simp; omega) | (simp only [Array.size_append]; simp; omega)) (h _ _ (fun b o e => ?_) ⟨_, Heap.get?_update_self _ (Heap.get?_push_size _ rfl) rfl, rfl⟩)
  exact (Heap.get?_update_other _ _ (Nat.ne_of_gt (Heap.lt_size (Heap.get?_push_of_some _ e)))).trans (up _ _ _ _ e)
theorem HotAt.keep {h h' : Heap} (c : HotAt A x1 h) (k : ∀ o, h.get? x1 = some o → h'.get? x1 = some o) : HotAt A x1 h' := let ⟨a, o, vs, e, d⟩ := c; ⟨a, o, vs, k o e, d⟩
theorem nextOf_list_hot {it l : Addr} {i : Nat} {items : Array Value} {Q : Value → Shared → Prop} (hot : HotAt A x1 s.heap) (hne : x1 ≠ it) (hit : s.heap.IsListIter it l i) (hl : s.heap.IsList l items) (hx : items[i]? = none)
    (hE : ∀ h' e, Heap.ExtBut it s.heap h' → (∃ o, h'.get? e = some o ∧ o.cls = .type "StopIteration") → E (.ref e) { s with heap := h' }) : wpAny (model prog w) A (Builtin.SmallTypes.nextOf (.ref it)) Q E s := by
  obtain ⟨o, ho, hc, hd⟩ := id hit; obtain ⟨ol, hol, _, nl, hdl⟩ := hl; unfold Builtin.SmallTypes.nextOf
  refine wpAny_bind (wpAny_callSpecial?_slot (name := Str.ofString "__next__") hit.typeIs slot_listiter_next (wpAny_call_entry slot_listiter_next hit.typeIs entry_listiter_next ?_ (args_listiter_next _)))
  show wpAny _ _ (field (.ref it) 0 >>= _) _ _ s; refine wpAny_bind (wpAny_field ho hd (x := .ref l) rfl ?_); show wpAny _ _ (if (Value.ref l == Value.none) = true then _ else _) _ _ s
  rw [if_neg (show ¬ ((Value.ref l == Value.none) = true) from Bool.false_ne_true)]; show wpAny _ _ (field (.ref it) 1 >>= _) _ _ s; refine wpAny_bind (wpAny_field ho hd (x := .int i 0) rfl ?_)
  show wpAny _ _ (seqItems? (.ref l) >>= _) _ _ s; refine wpAny_bind (wpAny_seqItems hol hdl ?_); simp only [Int.toNat_natCast, hx]
  refine wpAny_bind (wpAny_rule (wpAny_bind (wpAny_setField ho hd (by simp) ?_)))
  refine stop_hot (HotAt.keep hot fun o e => (Heap.get?_update_other _ _ hne.symm).trans e) fun h' e k st => hE h' e (fun b o hb e => k b o ((Heap.get?_update_other _ _ (Ne.symm hb)).trans e)) st
theorem draws_list_hot (hh : A.handled = some (.ref x1)) (it l : Addr) (hne : l ≠ it) (hx : x1 ≠ it) (items : Array Value) : Draws prog w A it [it, l, x1] items.size (fun i v => items[i]? = some v) (fun i h => (h.IsListIter it l i ∧ h.IsList l items) ∧ HotAt A x1 h) where
  live := fun _ _ st => let ⟨o, ho, _⟩ := st.1.1; ⟨o, ho⟩
  frame := fun _ _ _ st hk => ⟨⟨st.1.1.at fun o e => hk it (by simp) o e, st.1.2.at fun o e => hk l (by simp) o e⟩, HotAt.keep st.2 fun o e => hk x1 (by simp) o e⟩
  item := fun i s Q E hi st hQ => wpAny_nextOf_list_item st.1.1 st.1.2 (x := items[i]) (by simp [hi]) fun h' hit' hs' => hQ _ h' s.toks (by simp [hi]) ⟨⟨hit', st.1.2.extBut hs'.extBut hne⟩, HotAt.keep st.2 fun o e => hs'.extBut _ _ hx e⟩ hs'
  done := fun s Q E st hE => nextOf_list_hot st.2 hx st.1.1 st.1.2 (by simp) hE
/-- a tuple unpacked -/
theorem next_tuple_hot {it t : Addr} {i : Nat} {items : Array Value} {Q : Option Value → Shared → Prop} (hot : HotAt A x1 s.heap) (hne : x1 ≠ it) (hit : IsTupIter s.heap it t i) (ht : IsTup s.heap t items) (hx : items[i]? = none)
    (hQ : ∀ h', Heap.ExtBut it s.heap h' → Q none { s with heap := h' }) : wpAny (model prog w) A (pyNext (.ref it)) Q E s := by
  obtain ⟨o, ho, hc, hd⟩ := id hit; obtain ⟨ol, hol, _, nl, hdl⟩ := ht; unfold pyNext
  refine wpAny_bind (wpAny_attempt (wpAny_callSpecial?_slot (name := Str.ofString "__next__") hit.typeIs slot_tupleiter_next (wpAny_call_entry slot_tupleiter_next hit.typeIs entry_tupleiter_next ?_ (args_tupleiter_next _))))
  show wpAny _ _ (field (.ref it) 0 >>= _) _ _ s; refine wpAny_bind (wpAny_field ho hd (x := .ref t) rfl ?_); show wpAny _ _ (if (Value.ref t == Value.none) = true then _ else _) _ _ s
  rw [if_neg (show ¬ ((Value.ref t == Value.none) = true) from Bool.false_ne_true)]; show wpAny _ _ (field (.ref it) 1 >>= _) _ _ s; refine wpAny_bind (wpAny_field ho hd (x := .int i 0) rfl ?_)
  show wpAny _ _ (seqItems? (.ref t) >>= _) _ _ s; refine wpAny_bind (wpAny_seqItems hol hdl ?_); simp only [Int.toNat_natCast, hx]
  refine wpAny_bind (wpAny_rule (wpAny_bind (wpAny_setField ho hd (by simp) ?_)))
  refine stop_hot (HotAt.keep hot fun o e => (Heap.get?_update_other _ _ hne.symm).trans e) fun h' e k ⟨oe, st, sc⟩ => wpAny_bind (wpAny_isInstance (T := "StopIteration") (b := true) ⟨oe, st, sc⟩ isSubtype_stop (wpAny_pure (hQ h' fun b o hb e => k b o ((Heap.get?_update_other _ _ (Ne.symm hb)).trans e))))
theorem unpackItems_hot {t : Addr} {items : Array Value} {Q : List Value → Shared → Prop} (hot : HotAt A x1 s.heap) (ht : IsTup s.heap t items)
    (hQ : ∀ h', Heap.ExtBut s.heap.objs.size s.heap h' → Q items.toList { s with heap := h' }) : wpAny (model prog w) A (unpackItems (.ref t) items.size none) Q E s := by
  have hlt : t ≠ s.heap.objs.size := let ⟨o, ho, _⟩ := ht; Nat.ne_of_lt (Heap.lt_size ho)
  have hx : x1 ≠ s.heap.objs.size := let ⟨_, o, _, ho, _⟩ := hot; Nat.ne_of_lt (Heap.lt_size ho)
  unfold unpackItems; refine wpAny_bind ?_; unfold notIterableAtAll
  refine wpAny_bind (wpAny_specialOf ht.typeIs slot_tuple_iter.lookup (wpAny_pure ?_)); simp only [Bool.false_eq_true, if_false]
  refine wpAny_bind (wpAny_holding (iter_tuple ht (wpAny_bind (wpAny_holding (draw_tuple hlt items.size 0 _ _ ⟨_, Heap.get?_push_size _ rfl, rfl, rfl⟩ (ht.push _) (by omega) fun h₁ hit₁ hs₁ => ?_)))))
  have hall : List.take items.size (List.drop 0 items.toList) = items.toList := (by rw [List.drop_zero]; exact List.take_of_length_le (by simp))
  rw [hall, if_neg (by simp)]
  refine wpAny_bind (wpAny_holding (next_tuple_hot (HotAt.keep hot fun o e => hs₁.extBut _ _ hx (Heap.get?_push_of_some _ e)) hx hit₁ ((ht.push _).extBut hs₁.extBut hlt) (by simp) fun h₂ he₂ => ?_))
  simp only [Option.isSome_none, Bool.false_eq_true, if_false]
  exact wpAny_pure (hQ h₂ fun b o hb e => he₂ b o hb (hs₁.extBut b o hb (Heap.get?_push_of_some _ e)))
theorem assign_tuple_hot {env : PySem.Env} {elts : List Expr} {k} {pos : Pos} {t : Addr} {items : Array Value} {Q : Unit → Shared → Prop} (hot : HotAt A x1 s.heap) (ht : IsTup s.heap t items) (hn : (assignEach elts env).length = items.size) (hstar : (assignEach elts env).findIdx? (·.1) = none)
    (h : ∀ h', Heap.ExtBut s.heap.objs.size s.heap h' → wpAny (model prog w) A (assignInOrder ((assignEach elts env).map (·.2)) items.toList) Q E { s with heap := h' }) : wpAny (model prog w) A (assign (.Tuple elts k pos) env (.ref t)) Q E s := by
  rw [assign_Tuple]; refine wpAny_bind (wpAny_standAt ?_); unfold unpack; rw [hn, hstar]; exact wpAny_bind (wpAny_holding (unpackItems_hot hot ht h))
end
end Dt

set_option Elab.async false
set_option linter.all false
set_option maxRecDepth 100000
set_option maxHeartbeats 4000000
/-! While an exception is handled: zip of two lists, a list comprehension over it. -/
namespace Dt
open PySem PySem.Spec PyProof.Rows L2 HotX
/-- each state of the context bears the exception x1, which is handled -/
def HotB (X : Cx) (x1 : Addr) : Prop := X.A.handled = some (.ref x1) ∧ ∀ pins σ H s, Inv X pins σ H s → HotAt X.A x1 s.heap
theorem HotB.of {X : Cx} {p : Addr × Obj} (h : L2H.Hot1 X.A p) (hp : p ∈ X.pn) : HotB X p.1 := ⟨h.1, fun pins σ H s I => let ⟨v1, e1, c1⟩ := h.2; ⟨h.1, p.2, v1, (I.pin p (List.mem_append_left _ hp)).1, e1, c1⟩⟩
/-- a walk while x1 is handled -/
structure TurnB (x1 : Addr) (P : Program) (w : World) (K : PySem.W.Frag) (tg : Expr) (J : It) (fp : List Addr) (it : Addr) (tn : Nat → Heap → Prop) : Prop where
  ob : ∀ i h, tn i h → ∀ b ∈ fp, ∃ o, h.get? b = some o ∧ ∀ v, o.data ≠ .cell v
  kp : ∀ i h h', tn i h → (∀ b ∈ fp, ∀ o, h.get? b = some o → h'.get? b = some o) → tn i h'
  itm : ∀ (X : Cx), X.prog = P ∧ X.w = w ∧ X.K = K → HotB X x1 → ∀ (i : Nat) (pins : List (Addr × Obj)) (s : Shared) (σ : L2.St) (H : Hp) (E : Value → Shared → Prop), Inv X pins σ H s → (∀ b ∈ fp, FpOk X pins H b) → tn i s.heap → J.go i H →
    wpAny (model P w) X.A (pyNext (.ref it)) (fun r s1 => ∃ u, r = some u ∧ wpAny (model P w) X.A (letOwnedTupleGo tg (.ref it) u) (fun _ s2 => ∃ x H', Inv X pins σ H' s2 ∧ RelV x u ∧ J.yld i H x H' ∧ tn (i + 1) s2.heap ∧ ∀ b ∈ fp, H' b = none) E s1) E s
  dn : ∀ (X : Cx), X.prog = P ∧ X.w = w ∧ X.K = K → HotB X x1 → ∀ (i : Nat) (pins : List (Addr × Obj)) (s : Shared) (σ : L2.St) (H : Hp) (E : Value → Shared → Prop), Inv X pins σ H s → (∀ b ∈ fp, FpOk X pins H b) → tn i s.heap → J.stop i H →
    wpAny (model P w) X.A (pyNext (.ref it)) (fun r s1 => r = none ∧ Inv X pins σ H s1) E s
  sf : ∀ (A : Around) (i : Nat) (s : Shared) (Q : Value → Shared → Prop) (E : Value → Shared → Prop), tn i s.heap → Q (.ref it) s → wpAny (model P w) A (pyIter (.ref it)) Q E s
theorem turn_zzB {P : Program} {w : World} {K : PySem.W.Frag} {elts : List Expr} {kk : Nat} {tpos : Pos} {a b N x1 : Addr} (ha : a < N) (hb : b < N) (hx : x1 < N) :
    TurnB x1 P w K (.Tuple elts kk tpos) (Itzz K false false a b) [N + 4, N + 2, N + 3, N, N + 1] (N + 4) (fun i h => IsZip h (N + 4) (N + 2) (N + 3) .none ∧ IsTupOf2 h (N + 2) (.ref N) (.ref (N + 1)) ∧ (∃ x y, IsTupOf2 h (N + 3) x y) ∧ ItKd false h N a i ∧ ItKd false h (N + 1) b i) := by
  have two : ∀ {c d : Addr}, d < N → ∀ z ∈ [d, x1], z < N := fun {c d} h z hz => by
    have : z = d ∨ z = x1 := by simpa using hz
    rcases this with rfl | rfl
    · exact h
    · exact hx
  have S : ZipSep2 (N + 4) (N + 2) (N + 3) N (N + 1) [N, a, x1] [N + 1, b, x1] := zip_sep2 (two (c := 0) ha) (two (c := 0) hb)
  have nea : a ≠ N := Nat.ne_of_lt ha
  have neb : b ≠ N + 1 := Nat.ne_of_lt (Nat.lt_succ_of_lt hb)
  have nx1 : x1 ≠ N := Nat.ne_of_lt hx
  have nx2 : x1 ≠ N + 1 := Nat.ne_of_lt (Nat.lt_succ_of_lt hx)
  obtain ⟨_, ob, kp, _, _, sf⟩ := turn_zz (P := P) (w := w) (K := K) (elts := elts) (kk := kk) (tpos := tpos) false false ha hb
  have hw : ∀ c ∈ [N + 4, N + 3, N, N + 1], c ∈ [N + 4, N + 2, N + 3, N, N + 1] := fun c hc => by
    have : c = N + 4 ∨ c = N + 3 ∨ c = N ∨ c = N + 1 := by simpa using hc
    rcases this with rfl | rfl | rfl | rfl <;> simp
  refine ⟨ob, kp, ?_, ?_, sf⟩
  · intro X ⟨hP, hW, hK⟩ hot i pins s σ H E I hf st hg; subst hP hW hK
    obtain ⟨xs, ys, hx, hy, hi⟩ := hg
    obtain ⟨its, rv, p1, _⟩ := sq_get I hx
    obtain ⟨its2, rv2, p2, _⟩ := sq_get I hy
    have l1 := rv.length
    have l2 := rv2.length
    have D := WalksT.zipD2 S (draws_list_hot (prog := X.prog) (w := X.w) (A := X.A.in1) hot.1 N a nea nx1 its.toArray) (draws_list_hot (A := X.A.in1) hot.1 (N + 1) b neb nx2 its2.toArray)
    have old : ∀ c ∈ [N + 4, N + 2, N + 3, N, N + 1], c < s.heap.objs.size := fun c hc => let ⟨o, e, _⟩ := ob i _ st c hc; Heap.lt_size e
    obtain ⟨hz, hT, hO, h1, h2⟩ := st
    have hA := hot.2 _ _ _ _ I
    refine turn_item (Y := (Itzz X.K false false a b).yld i H) (tn := fun h => IsZip h (N + 4) (N + 2) (N + 3) .none ∧ IsTupOf2 h (N + 2) (.ref N) (.ref (N + 1)) ∧ (∃ x y, IsTupOf2 h (N + 3) x y) ∧ ItKd false h N a (i + 1) ∧ ItKd false h (N + 1) b (i + 1)) D I hf (by simp; omega) ⟨hz, hT, hO, ⟨⟨h1, p1⟩, hA⟩, ⟨⟨h2, p2⟩, hA⟩⟩ hw old (fun vals hv => ?_) fun h' st' => ⟨st'.1, st'.2.1, st'.2.2.1, st'.2.2.2.1.1.1, st'.2.2.2.2.1.1⟩
    obtain ⟨u1, u2, e1, e2, rfl⟩ := hv
    obtain ⟨x, ex, rx⟩ := vals_at rv e1
    obtain ⟨y, ey, ry⟩ := vals_at rv2 e2
    exact ⟨[x, y], .cons rx (.cons ry .nil), by show 2 ≤ sizeLine; decide, fun T hT => ⟨T, x, y, rfl, hT, rfl, fun l hl => by rw [sq_inj I hl hx]; exact ex, fun l hl => by rw [sq_inj I hl hy]; exact ey⟩⟩
  · intro X ⟨hP, hW, hK⟩ hot i pins s σ H E I hf st hg; subst hP hW hK
    obtain ⟨xs, ys, hx, hy, hi⟩ := hg
    obtain ⟨its, rv, p1, _⟩ := sq_get I hx
    obtain ⟨its2, rv2, p2, _⟩ := sq_get I hy
    have l1 := rv.length
    have l2 := rv2.length
    have D := WalksT.zipD2 S (draws_list_hot (prog := X.prog) (w := X.w) (A := X.A.in1) hot.1 N a nea nx1 its.toArray) (draws_list_hot (A := X.A.in1) hot.1 (N + 1) b neb nx2 its2.toArray)
    obtain ⟨hz, hT, hO, h1, h2⟩ := st
    have hA := hot.2 _ _ _ _ I
    have e : i = min its.toArray.size its2.toArray.size := by simp; omega
    exact turn_done D I hf ⟨hz, hT, hO, ⟨⟨by rw [← e]; exact h1, p1⟩, hA⟩, ⟨⟨by rw [← e]; exact h2, p2⟩, hA⟩⟩ hw
def PIEB (X : Cx) (x1 : Addr) (pins : List (Addr × Obj)) (σ : L2.St) (tg : Expr) (R : It → Hp → Prop) (v : Value) (s : Shared) : Prop :=
  ∃ (it : Addr) (fp : List Addr) (tn : Nat → Heap → Prop) (J : It) (H : Hp), v = .ref it ∧ Inv X pins σ H s ∧ TurnB x1 X.prog X.w X.K tg J fp it tn ∧ tn 0 s.heap ∧ (∀ b ∈ fp, FpOk X pins H b) ∧ R J H
structure PIB (X : Cx) (x1 : Addr) (tg iter : Expr) (wi : TI) : Prop where
  run : ∀ (pins : List (Addr × Obj)) (s : Shared) (σ : L2.St) (H : Hp) (R : It → Hp → Prop), Inv X pins σ H s → wi σ H R → wpAny (model X.prog X.w) X.A (eval iter X.env) (fun v s1 => wpAny (model X.prog X.w) X.A (pyIter v) (PIEB X x1 pins σ tg R) X.xe s1) X.xe s
def iZipB (K : PySem.W.Frag) (ta : TA) : TI := fun σ H R => ta σ H fun vs H1 => ∃ a b xs ys, vs = [.ref a, .ref b] ∧ SqL K H1 a xs ∧ SqL K H1 b ys ∧ R (Itzz K false false a b) H1
theorem pi_zzB {X : Cx} {x1 : Addr} {e e2 : Expr} {ta : TA} {p pos tpos : Pos} {elts : List Expr} {kk : Nat} (hot : HotB X x1) (hg : Gl X "zip") (hm : X.mg "zip" = none) (ha : PA X [e, e2] ta)
    (hs : starEach [e, e2] X.env = (false, eval e X.env) :: starEach [e2] X.env := by rfl) (hpl : (backTo pos (starEach [e2] X.env)).any (·.1) = false := by rfl) : PIB X x1 (.Tuple elts kk tpos) (.Call (.Name "zip" p) [e, e2] [] pos) (iZipB X.K ta) := by
  refine ⟨fun pins s σ H R I h => Call_ (ld_blt I hg hm boot_zip (callWith_type1 (thn (ha.run pos pins s σ H _ I h) fun us s1 ⟨vs, H1, I1, r1, a, b, xs, ys, ex, hx, hy, q1⟩ => ?_) hs hpl))⟩
  subst ex
  cases r1 with
  | cons r rr =>
    cases rr with
    | cons r' rr =>
      cases rr; cases r; cases r'
      obtain ⟨its, rv, p1, la⟩ := sq_get (k := false) I1 hx
      obtain ⟨its2, rv2, p2, lb⟩ := sq_get (k := false) I1 hy
      have lx : x1 < s1.heap.objs.size := let ⟨_, o, _, ho, _⟩ := hot.2 _ _ _ _ I1; Heap.lt_size ho
      refine zip_begins2 (begins_sq false a its.toArray) (begins_sq false b its2.toArray) p1 p2 fun h' hz hTI hTO h1 h2 hsz hk => wpAny_pyIter_zip hz ?_
      refine ⟨_, _, _, _, H1, rfl, I1.kept (t' := s1.toks) hk, turn_zzB la lb lx, ⟨hz, hTI, ⟨_, _, hTO⟩, itKd_new h1, itKd_new h2⟩, fun c hcm => ?_, q1⟩
      have : c = s1.heap.objs.size + 4 ∨ c = s1.heap.objs.size + 2 ∨ c = s1.heap.objs.size + 3 ∨ c = s1.heap.objs.size ∨ c = s1.heap.objs.size + 1 := by simpa using hcm
      have hle : s1.heap.objs.size ≤ c := by
        rcases this with rfl | rfl | rfl | rfl | rfl <;> first | exact Nat.le_add_right _ _ | exact Nat.le_refl _
      exact I1.fpOk hle (I1.hok.fresh hle)
theorem pg_tupB {X : Cx} {x1 : Addr} {es : List Expr} {k n : Nat} {pos : Pos} {t : TGs} (hot : HotB X x1) (h : PGs X es t) (hn : (assignEach es X.env).length = n := by rfl) (hst : (assignEach es X.env).findIdx? (·.1) = none := by rfl) : PG X (.Tuple es k pos) (gTup X.K n t) :=
  ⟨fun pins s σ H v u Q I r ⟨a, xs, e1, hq, hl, hw⟩ => by
    subst e1; cases r
    obtain ⟨its, rv, ht, hz⟩ := I.tuple hq
    refine assign_tuple_hot (hot.2 _ _ _ _ I) ht (by simp [hn, ← hl, rv.length]) hst fun h' hx => ?_
    exact h.run pins _ σ H xs _ Q (I.kept (h' := h') (t' := s.toks) fun b o e => hx b o (Nat.ne_of_lt (Heap.lt_size e)) e) (by simpa using rv) hw⟩
end Dt

set_option Elab.async false
set_option linter.all false
set_option maxRecDepth 100000
set_option maxHeartbeats 4000000
/-! While an exception is handled: a list comprehension. -/
namespace Dt
open PySem PySem.Spec PyProof.Rows L2 HotX
section
variable {X : Cx} {p : Addr × Obj}
/-- a block's states bear it too -/
theorem HotB.blk {pins : List (Addr × Obj)} {σ : L2.St} {H : Hp} {s : Shared} {scope : Scope} {ce : PySem.Env} {fp : List Addr} (hot : L2H.Hot1 X.A p) (hp : p ∈ X.pn) (I : Inv X pins σ H s) (hf : ∀ b ∈ fp, FpOk X pins H b) : HotB (X.blk s H scope ce fp) p.1 := by
  obtain ⟨g, n, nl, nf, _⟩ := I.pin p (List.mem_append_left _ hp)
  obtain ⟨hh, v1, e1, c1⟩ := hot
  exact ⟨hh, fun pins' σ' H' s' J => ⟨hh, p.2, v1, J.base.keep p.1 p.2 g n (fun z => (List.mem_cons.mp (I.stkSub p.1 z)).elim nl nf) fun z => (hf p.1 z).2.2.2.2.2 p (List.mem_append_left _ hp) rfl, e1, c1⟩⟩
theorem lc_hot {pins : List (Addr × Obj)} {s : Shared} {σ : L2.St} {H : Hp} {Q : VK} {elt tg iter : Expr} {ifs : List Expr} {scope : Scope} {own : List (Str × Nat)} {pos pos' : Pos} {wi : TI} {g : TG} {tt : TT} {te : TE} {use : Option (Value → Sem Unit)} {Qf : Value → Shared → Prop}
    (hot : L2H.Hot1 X.A p) (hp : p ∈ X.pn) (hN : X.N.Nodup) (I : Inv X pins σ H s) (hi : PIB X p.1 tg iter wi) (ok : BlkOk X.N X.env.scope scope own)
    (hg : ∀ (s : Shared) (H : Hp) (C : Addr) (cl : List (Str × Addr)) (fp : List Addr), HotB (X.blk s H scope (compEnvC scope cl C X.env) fp) p.1 → PG (X.blk s H scope (compEnvC scope cl C X.env) fp) tg g)
    (ht : ∀ (s : Shared) (H : Hp) (C : Addr) (cl : List (Str × Addr)) (fp : List Addr), PTs (X.blk s H scope (compEnvC scope cl C X.env) fp) ifs tt)
    (he : ∀ (s : Shared) (H : Hp) (C : Addr) (cl : List (Str × Addr)) (fp : List Addr), PE (X.blk s H scope (compEnvC scope cl C X.env) fp) elt te) (hs : ∀ x, foldedSetIterable iter X.env x = pure x) (h : tLc wi g tt te (own.map (·.2)) σ H Q)
    (hR : ∀ D C s' m H', Inv X pins σ H' s' → Q (.ref D) H' → s'.heap.Ns C m → FpOk X pins H' C → compPost (model X.prog X.w) X.A X.xe use Qf (.ref D) C (.ok .next) s') :
    wpAny (model X.prog X.w) X.A (comprehension (.ListComp elt [⟨tg, iter, ifs, 0⟩] scope pos) scope X.env pos' (newList []) false (eval iter X.env) use) Qf X.xe s := by
  have hfree : ∀ y ∈ scope.names, y.2 = .free → ∃ c, X.env.cells.lookup y.1 = some c := fun y hy e => (ok.free y hy e).elim (fun k => I.ok.has _ (.inl k)) fun k => I.ok.has _ (.inr k)
  refine wpAny_comprehension_free (use := use) rfl hs (closure_ok hfree) ok.kind (fun y hy e => by rw [ok.uniq y hy, e]) (thn (hi.run pins s σ H _ I h) fun xv s1 hx => thn hx fun itv s2 ⟨it, fp, tn, J, H2, e, I2, T, st2, f2, q⟩ => ?_)
  subst e
  refine wpAny_newObj_type (newEnv_comp ?_) (by show 0 ≤ sizeLine; decide)
  generalize hD : s2.heap.objs.size = D
  obtain ⟨W, ⟨m0, w0⟩, turn⟩ := q D (I2.hok.fresh (Nat.le_of_eq hD))
  generalize hs3 : ({ s2 with heap := s2.heap.push { cls := .type "list", data := .seq ([] : List Value).toArray } } : Shared) = s3
  have I3 : Inv X pins σ (upd H2 D (.lst [])) s3 := (by
    subst hs3 hD
    exact I2.laid (t' := s2.toks) (fun b o e => Heap.get?_push_of_some _ e) (Nat.le_refl _) ⟨Nat.zero_le _, [], 0, .nil, Heap.get?_push_size _ rfl⟩)
  have h3 : s3.heap = s2.heap.push { cls := .type "list", data := .seq ([] : List Value).toArray } := (by rw [← hs3])
  have f3 : ∀ b ∈ fp, FpOk X pins (upd H2 D (.lst [])) b ∧ b < s3.heap.objs.size := fun b hb => by
    obtain ⟨o, e, _⟩ := T.ob _ _ st2 b hb
    have hlt := Heap.lt_size e
    exact ⟨⟨(upd_ne (by rw [← hD]; exact Nat.ne_of_lt hlt)).trans (f2 b hb).1, (f2 b hb).2⟩, by rw [h3, Heap.size_push]; exact Nat.lt_succ_of_lt hlt⟩
  have st3 : tn 0 s3.heap := T.kp _ _ _ st2 fun b _ o e => (by rw [h3]; exact Heap.get?_push_of_some _ e)
  have I4 := block_start I3 ok hN f3
  have hb : HotB (X.blk s3 (upd H2 D (.lst [])) scope (compEnvC scope (cellsFrom (s3.heap.objs.size + 1) scope.names (cloFrom X.env.cells scope.names [])) s3.heap.objs.size X.env) fp) p.1 := HotB.blk hot hp I3 fun b hb => (f3 b hb).1
  have pg := hg s3 (upd H2 D (.lst [])) s3.heap.objs.size (cellsFrom (s3.heap.objs.size + 1) scope.names (cloFrom X.env.cells scope.names [])) fp hb
  have pt := ht s3 (upd H2 D (.lst [])) s3.heap.objs.size (cellsFrom (s3.heap.objs.size + 1) scope.names (cloFrom X.env.cells scope.names [])) fp; have pe := he s3 (upd H2 D (.lst [])) s3.heap.objs.size (cellsFrom (s3.heap.objs.size + 1) scope.names (cloFrom X.env.cells scope.names [])) fp
  show codeAny _ _ (.compStart (.ListComp elt [⟨tg, iter, ifs, 0⟩] scope pos) 0 (.ref it) (.ref D) (compEnvC scope (cellsFrom (s3.heap.objs.size + 1) scope.names (cloFrom X.env.cells scope.names [])) s3.heap.objs.size X.env)) (compPost (model X.prog X.w) X.A X.xe use Qf (.ref D) s3.heap.objs.size)
    { s3 with heap := pushCells (s3.heap.push { cls := .type "dict", data := .dict #[] }) scope.names }
  have nfp : ∀ b ∈ fp, (upd H2 D (.lst [])) b = none := fun b hb => (f3 b hb).1.1
  generalize hce : compEnvC scope (cellsFrom (s3.heap.objs.size + 1) scope.names (cloFrom X.env.cells scope.names [])) s3.heap.objs.size X.env = ce at I4 pg pt pe hb ⊢
  have cL : ce.locals = s3.heap.objs.size := (by subst hce; rfl)
  generalize hH3 : upd H2 D (.lst []) = H3 at I3 I4 pg pt pe w0 nfp f3 hb
  generalize hs4 : ({ s3 with heap := pushCells (s3.heap.push { cls := .type "dict", data := .dict #[] }) scope.names } : Shared) = s4 at I4 ⊢
  have st4 : tn 0 s4.heap := T.kp _ _ _ st3 fun b _ o e => (by rw [← hs4]; exact pushCells_keeps _ _ _ _ (Heap.get?_push_of_some _ e))
  have stat : ∀ {σ' : L2.St} {H' : Hp} {s' : Shared}, Inv (X.blk s3 H3 scope ce fp) [] σ' H' s' → (∀ b ∈ fp, H' b = none) → ∀ b ∈ fp, FpOk (X.blk s3 H3 scope ce fp) [] H' b := fun {σ' H' s'} I' hn b hb => ⟨hn b hb, (I'.ok.exf b hb).1, I'.ok.exfs b hb, .inl hb, (I'.ok.exf b hb).2, fun p hp => nomatch (show p ∈ ([] : List (Addr × Obj)) ++ [] from hp)⟩
  have loop : codeAny (model X.prog X.w) X.A (.compLoop (.ListComp elt [⟨tg, iter, ifs, 0⟩] scope pos) 0 (.ref it) (.ref D) ce) (compPost (model X.prog X.w) X.A X.xe use Qf (.ref D) s3.heap.objs.size) s4 := by
    refine compLoop_any (fun n s' => ∃ i H', Inv (X.blk s3 H3 scope ce fp) [] (wipe σ (own.map (·.2))) H' s' ∧ tn i s'.heap ∧ (∀ b ∈ fp, H' b = none) ∧ W i n H') ?_ m0 ⟨0, H3, I4, st4, nfp, w0⟩
    rintro n s5 ⟨i, H5, I5, st5, n5, w5⟩
    rcases turn i n H5 w5 with ⟨stop, qq⟩ | ⟨go, Nx, hNx, step⟩
    · refine thnF (T.dn (X.blk s3 H3 scope ce fp) ⟨rfl, rfl, rfl⟩ hb i [] s5 _ H5 (fun _ _ => False) I5 (stat I5 n5) st5 stop) fun r s6 ⟨hr, I6⟩ => ?_
      subst hr
      have I7 : Inv X pins σ H5 s6 := I3.call' (ch := fp) I6.os I6.base I6.hok I6.bare fun b hb => let z := (f3 b hb).1; ⟨z.2.2.2.1, z.2.1, z.2.2.2.2.1, z.2.2.2.2.2⟩
      have nC : H5 s3.heap.objs.size = none := cL ▸ I6.free
      obtain ⟨m, hn, _⟩ := I6.loc
      exact hR D s3.heap.objs.size s6 m H5 I7 qq (cL ▸ hn) (I3.fpOk (Nat.le_refl _) nC)
    · refine thnF (T.itm (X.blk s3 H3 scope ce fp) ⟨rfl, rfl, rfl⟩ hb i [] s5 _ H5 (fun _ _ => False) I5 (stat I5 n5) st5 go) fun r s6 ⟨u, hr, h6⟩ => ?_
      subst hr
      refine thnF h6 fun _ s7 ⟨x, H7, I7, r7, y7, st7, n7⟩ => thnF (pg.run _ s7 _ H7 x u _ (I7.pinned (stat I7 n7) (T.ob _ _ st7)) r7 (step x H7 y7)) fun _ s8 ⟨σ8, H8, I8, hw8, q8⟩ => thnF (pt.run _ s8 σ8 H8 _ I8 q8) fun b s9 ⟨H9, I9, q9⟩ => ?_
      have fin : ∀ {s' : Shared} {H' : Hp}, Inv (X.blk s3 H3 scope ce fp) ([] ++ pinsAt fp s7.heap) σ8 H' s' → Nx H' → ∃ m, m < n ∧ ∃ i H', Inv (X.blk s3 H3 scope ce fp) [] (wipe σ (own.map (·.2))) H' s' ∧ tn i s'.heap ∧ (∀ b ∈ fp, H' b = none) ∧ W i m H' := fun {s' H'} I' nx => by
        obtain ⟨m', hm, w'⟩ := hNx H' nx
        have pin' : ∀ b ∈ fp, ∀ o, s7.heap.get? b = some o → s'.heap.get? b = some o ∧ H' b = none := fun b hb o e => (I'.pin (b, o) (List.mem_append_right _ (List.mem_append_right _ (mem_pinsAt hb e)))).imp id And.left
        refine ⟨m', hm, i + 1, H', (I'.unpinned (pins := [])).weak (by rw [← hw8, wipe_length]) (fun j v e => (wipe_some (hw8 ▸ e)).1), T.kp _ _ _ st7 fun b hb o e => (pin' b hb o e).1, fun b hb => let ⟨o, e, _⟩ := T.ob _ _ st7 b hb; (pin' b hb o e).2, w'⟩
      cases b with
      | false => exact fin I9 q9
      | true => exact thnF (pe.run _ s9 σ8 H9 _ I9 q9) fun z s10 ⟨yv, H10, I10, r10, acc, hD10, hz10, nx⟩ => app_ok (X := X.blk s3 H3 scope ce fp) I10 hD10 hz10 r10 fun s11 I11 => fin I11 nx
  exact codeAny_compStart_list loop (T.sf X.A 0 _ _ _ st4 loop)
theorem pe_lcB {elt tg iter : Expr} {ifs : List Expr} {scope : Scope} {own : List (Str × Nat)} {pos : Pos} {wi : TI} {g : TG} {tt : TT} {te : TE} (hot : L2H.Hot1 X.A p) (hp : p ∈ X.pn) (hN : X.N.Nodup) (hi : PIB X p.1 tg iter wi) (ok : BlkOk X.N X.env.scope scope own)
    (hg : ∀ (s : Shared) (H : Hp) (C : Addr) (cl : List (Str × Addr)) (fp : List Addr), HotB (X.blk s H scope (compEnvC scope cl C X.env) fp) p.1 → PG (X.blk s H scope (compEnvC scope cl C X.env) fp) tg g)
    (ht : ∀ (s : Shared) (H : Hp) (C : Addr) (cl : List (Str × Addr)) (fp : List Addr), PTs (X.blk s H scope (compEnvC scope cl C X.env) fp) ifs tt)
    (he : ∀ (s : Shared) (H : Hp) (C : Addr) (cl : List (Str × Addr)) (fp : List Addr), PE (X.blk s H scope (compEnvC scope cl C X.env) fp) elt te) (hs : ∀ x, foldedSetIterable iter X.env x = pure x := by intro _; rfl) :
    PE X (.ListComp elt [⟨tg, iter, ifs, 0⟩] scope pos) (tLc wi g tt te (own.map (·.2))) := ⟨fun pins s σ H Q I h => by
  rw [eval_ListComp]
  exact lc_hot hot hp hN I hi ok hg ht he hs h fun D C s' m H' I' q hn ⟨f0, f1, f2, f3, f4, f5⟩ => ⟨m, hn, fun h'' sb => ⟨.ref D, H', I'.turned (t' := s'.toks) (fun b o hb e => (sb.2 b hb).trans e) f0 f1 f3 f4 f5, rfl, q⟩⟩⟩
end
end Dt

set_option Elab.async false
set_option linter.all false
set_option maxRecDepth 100000
set_option maxHeartbeats 4000000
/-! s.join(..); while an exception is handled: isinstance of it, the rules of the judgements for zip and comprehensions. -/
namespace Dt
open PySem PySem.Spec PyProof.Rows L2 HotX
/-! ### join -/
def txtsD : List D → Option (List Str)
  | [] => some []
  | .str s :: ds => (txtsD ds).map (s :: ·)
  | _ => none
theorem txts_rp {K : PySem.W.Frag} {F : Hp} : ∀ {vs : List V} {ds : List D} {ys : List Str}, Rps K F vs ds → txtsD ds = some ys → vs = ys.map V.str
  | _, _, _, .nil, e => by cases e; rfl
  | _, _, _, .cons (d := d) (ds := ds) a b, e => by
    cases a with
    | str s =>
      simp only [txtsD] at e
      cases e2 : txtsD ds with
      | none => rw [e2] at e; cases e
      | some zs => rw [e2] at e; cases e; rw [txts_rp b e2]; rfl
    | _ => simp only [txtsD] at e; cases e
def joinG (a : Str) (d : D) : Option D := match d with
  | .lst ds => (txtsD ds).bind fun ys => if (ys.map (·.length)).sum + ys.length * a.length ≤ 16777216 then some (.str (Txt.join a ys)) else none
  | _ => none
def sJoin (so se : SE) : SE := fun ρ => (so ρ).bind fun d ρ1 => match d with
  | .str a => (se ρ1).bind fun l ρ2 => ofO (joinG a l) ρ2
  | _ => .stuck
@[simp] theorem ev_join (so se : SE) (ρ : Env) : sJoin so se ρ = (so ρ).bind fun d ρ1 => match d with
  | .str a => (se ρ1).bind fun l ρ2 => ofO (joinG a l) ρ2
  | _ => .stuck := rfl
section
variable {ex : Exx} {X : Cx} {W : WX} {o e : Expr} {apos pos : Pos} {so se : SE}
theorem d_join (ho : DE (GK X ex) X W o so) (he : DE (GK X ex) X W e se) (hs : starEach [e] X.env = [(false, eval e X.env)] := by rfl) (hbase : attributeBase o "join" X.env (eval o X.env) = eval o X.env := by rfl) (hline : (apos.endLine == pos.line) = true := by rfl) :
    DE (GK X ex) X W (.Call (.Attribute o "join" apos) [e] [] pos) (sJoin so se) :=
  wkE (pe_join ho he hs hbase hline) fun σ H Q ⟨ρ, F, Rv, io, rel, q⟩ => by
    refine ⟨ρ, F, Rv, io, rel, ?_⟩
    unfold sJoin at q
    cases e1 : so ρ with
    | stuck => rw [e1] at q; exact q.elim
    | exc x ρ' => rw [e1] at q; exact q
    | ok d ρ1 =>
      rw [e1, R.bind_ok] at q
      intro v H1 F1 le1 rel1 rp
      cases d with
      | str a =>
        cases rp
        refine ⟨⟨a, rfl⟩, ρ1, F1, Rv, io, rel1, ?_⟩
        cases e2 : se ρ1 with
        | stuck => simp only [e2] at q; exact q.elim
        | exc x ρ' => simp only [e2] at q; exact XPost.le q le1
        | ok l ρ2 =>
          simp only [e2, R.bind_ok] at q
          intro v2 H2 F2 le2 rel2 rp2
          cases e3 : joinG a l with
          | none => rw [e3] at q; exact q.elim
          | some d =>
            rw [e3] at q
            unfold joinG at e3
            split at e3
            · rename_i ds
              cases e4 : txtsD ds with
              | none => rw [e4] at e3; cases e3
              | some ys =>
                rw [e4, Option.bind_some] at e3
                split at e3
                · rename_i hz
                  cases e3
                  cases rp2 with
                  | lst t r =>
                    rw [txts_rp r e4] at t
                    exact ⟨a, _, ys, rfl, rfl, .inl (SqL.of (rel2.fH _ _ t)), hz, q _ H2 F2 (le1.trans le2) rel2 (.str _)⟩
                · cases e3
            · cases e3
      | _ => exact q.elim
end
/-! ### isinstance of the exception that is handled -/
theorem call_isP {X : Cx} {a C : Addr} {oe : Obj} (hp : (a, oe) ∈ X.pn) (c : ExcC X.K C) (hz : Zc (.ref C) none oe) (hf : ∃ vs, oe.data = .fields vs) : CallR X (.builtin "isinstance") (rIsE X.K C a) := fun pins s σ H xs us Q I r ⟨d, cv, b, ex, hcv, e, q⟩ => by
  subst ex
  match us, r with
  | [_, ut], .cons rx (.cons rt .nil) =>
    obtain rfl : _ = Value.ref a := rx
    obtain rfl : ut = cv := hcv _ rt
    have J : PySem.W.InstAt s.heap a oe C none := (by
      obtain ⟨hget, _⟩ := I.pin (a, oe) (List.mem_append_left _ hp)
      obtain ⟨vs, hv⟩ := hf
      obtain ⟨oc, od, da, sl⟩ := oe
      obtain ⟨h1, h2⟩ := hz
      dsimp only at h1 h2 hv; subst h1 h2 hv; exact ⟨hget, rfl, rfl, trivial⟩)
    exact PySem.W.kia_one (PySem.W.handS_kitx_exc c.hg c.hk c.hs c.hd c.ha c.hn c.ht c.hm) I.kIn J e (fun z => nomatch z) fun tk => ⟨V.bl b, H, I.kept (fun _ _ z => z), rfl, q⟩
def sIsE (i : Nat) (a : Addr) (b : Bool) : SE := fun ρ => match ρ[i]? with
  | some (.fro (.exn c)) => if c = a then .ok (.bl b) ρ else .stuck
  | _ => .stuck
section
variable {ex : Exx} {X : Cx} {W : WX} {e : Expr} {p pos : Pos}
theorem d_isE {i : Nat} {a C c : Addr} {oe : Obj} {b : Bool} {t : Str} {q : Pos} (hp : (a, oe) ∈ X.pn) (cc : ExcC X.K C) (hz : Zc (.ref C) none oe) (hf : ∃ vs, oe.data = .fields vs) (hg : Gl X "isinstance") (hm : X.mg "isinstance" = none)
    (gt : Gl X t) (mt : X.mg t = some (.ref c)) (k : PySem.W.kitOne X.K (.ref C) (.ref c) = some b) (ha : PE X e (tVar i)) (hd : (t == ("__debug__" : Str)) = false := by decide)
    (he : starEach (e :: (.Name t q) :: []) X.env = (false, eval e X.env) :: starEach ((.Name t q) :: []) X.env := by rfl) (hpl : (backTo pos (starEach ((.Name t q) :: []) X.env)).any (·.1) = false := by rfl) (hs2 : starEach ((.Name t q) :: []) X.env = (false, eval (.Name t q) X.env) :: starEach [] X.env := by rfl) :
    DE (GK X ex) X W (.Call (.Name "isinstance" p) (e :: (.Name t q) :: []) [] pos) (sIsE i a b) :=
  wkE (isi_gl hg hm (call_isP hp cc hz hf) (pa_cons ha (pa_cons (pe_glob (v := .ref c) gt mt rfl hd) pa_nil hs2) he) he hpl) fun σ H Q ⟨ρ, F, Rv, io, rel, z⟩ => by
    unfold sIsE at z
    cases e1 : ρ[i]? with
    | none => rw [e1] at z; exact z.elim
    | some cl =>
      rw [e1] at z
      cases cl with
      | fro d =>
        cases d with
        | exn c' =>
          by_cases ec : c' = a
          · simp only [if_pos ec] at z
            subst ec
            obtain ⟨v, e2, x, rfl, rp⟩ := rel.slot e1
            cases rp
            exact ⟨_, e2, .ref c, .ref c, b, rfl, (fun u h => h), k, z (.bl b) H F (FLe.refl F) rel (.bl b)⟩
          · simp only [if_neg ec] at z
        | _ => exact z.elim
      | _ => exact z.elim
end
/-! ### zip, targets, comprehensions -/
def zipL : List D → Option (List D)
  | [.lst xs, .lst ys] => some (pairUp xs ys)
  | _ => none
def iZipL (s : SA) : SA := fun ρ => (s ρ).bind fun ds ρ' => ofO (zipL ds) ρ'
@[simp] theorem ev_iZipL (s : SA) (ρ : Env) : iZipL s ρ = (s ρ).bind fun ds ρ' => ofO (zipL ds) ρ' := rfl
def gTupA (n : Nat) (gs : SGs) : SG := fun d ρ => match d with
  | .arg ds => if ds.length = n then gs ds ρ else .stuck
  | _ => .stuck
@[simp] theorem ev_gTupA (n : Nat) (gs : SGs) (ds : List D) (ρ : Env) : gTupA n gs (.arg ds) ρ = if ds.length = n then gs ds ρ else .stuck := rfl
section
variable {ex : Exx} {X : Cx} {W : WX} {e tg elt iter : Expr} {es : List Expr} {p pos : Pos} {sA : SA}
theorem d_iZipB {x1 : Addr} {e2 : Expr} {elts : List Expr} {kk : Nat} {tpos : Pos} (hot : HotB X x1) (hg : Gl X "zip") (hm : X.mg "zip" = none) (ha : DA (GK X ex) X W [e, e2] sA) (hs : starEach [e, e2] X.env = (false, eval e X.env) :: starEach [e2] X.env := by rfl) (hpl : (backTo pos (starEach [e2] X.env)).any (·.1) = false := by rfl) :
    PIB X x1 (.Tuple elts kk tpos) (.Call (.Name "zip" p) [e, e2] [] pos) (tI (GK X ex) W (iZipL sA)) :=
  ⟨fun pins s σ H RR I ⟨ρ, F, Rv, io, rel, q⟩ => (pi_zzB hot hg hm ha hs hpl).run pins s σ H RR I (by
    refine ⟨ρ, F, Rv, io, rel, ?_⟩
    rw [ev_iZipL] at q
    cases e1 : sA ρ with
    | stuck => rw [e1] at q; exact q.elim
    | exc x ρ' => rw [e1] at q; exact q
    | ok ds ρ' =>
      rw [e1, R.bind_ok] at q
      intro vs H' F' le rel' rs
      cases e3 : zipL ds with
      | none => rw [e3] at q; exact q.elim
      | some zs =>
        rw [e3] at q
        unfold zipL at e3
        split at e3
        · rename_i xs ys
          cases e3
          match vs, rs with
          | [_, _], .cons r1 (.cons r2 .nil) =>
            cases r1 with
            | lst t1 q1 =>
              cases r2 with
              | lst t2 q2 =>
                have s1 : SqK X.K false F' _ _ := SqL.of t1
                have s2 : SqK X.K false F' _ _ := SqL.of t2
                exact ⟨_, _, _, _, rfl, rel'.fH.sqL s1, rel'.fH.sqL s2, q _ H' F' le rel' (iter_zz s1 s2 q1 q2)⟩
        · cases e3)⟩
theorem d_gTupB {x1 : Addr} {k n : Nat} {gs : SGs} {js : List Nat} (hot : HotB X x1) (h : DGs (GK X ex) X W js es gs) (hn : (assignEach es X.env).length = n := by rfl) (hst : (assignEach es X.env).findIdx? (·.1) = none := by rfl) : DG (GK X ex) X W js (.Tuple es k pos) (gTupA n gs) :=
  wkG (pg_tupB hot h hn hst) fun v σ H Q ⟨d, ρ, F, Rv, io, rel, rp, q⟩ => by
    cases d with
    | arg ds =>
      cases rp with
      | arg t r =>
        rw [ev_gTupA] at q
        by_cases hl : ds.length = n
        · rw [if_pos hl] at q
          exact ⟨_, _, rfl, rel.fH.sqT t, by rw [r.length]; exact hl, ds, ρ, F, Rv, io, rel, r, q⟩
        · rw [if_neg hl] at q; exact q.elim
    | _ => exact q.elim
theorem d_compFB {pp : Addr × Obj} {ifs : List Expr} {scope : Scope} {own : List (Str × Nat)} {it : SA} {g : SG} {t : ST} {s : SE} {js : List Nat} (hot : L2H.Hot1 X.A pp) (hp : pp ∈ X.pn) (nd : X.N.Nodup) (hi : PIB X pp.1 tg iter (tI (GK X ex) W it)) (ok : BlkOk X.N X.env.scope scope own)
    (hg : ∀ (s : Shared) (H : Hp) (C : Addr) (cl : List (Str × Addr)) (fp : List Addr), HotB (X.blk s H scope (compEnvC scope cl C X.env) fp) pp.1 → DG (GK X ex) (X.blk s H scope (compEnvC scope cl C X.env) fp) W0 js tg g)
    (ht : ∀ (s : Shared) (H : Hp) (C : Addr) (cl : List (Str × Addr)) (fp : List Addr), PTs (X.blk s H scope (compEnvC scope cl C X.env) fp) ifs (tT (GK X ex) W0 t))
    (he : ∀ (s' : Shared) (H : Hp) (C : Addr) (cl : List (Str × Addr)) (fp : List Addr), DE (GK X ex) (X.blk s' H scope (compEnvC scope cl C X.env) fp) W0 elt s) (hjs : js.all (fun j => (own.map (·.2)).contains j) = true) (hs : ∀ x, foldedSetIterable iter X.env x = pure x := by intro _; rfl) :
    DF (GK X ex) X W (.ListComp elt [⟨tg, iter, ifs, 0⟩] scope pos) (sComp (own.map (·.2)) it g t s) :=
  wkE (pe_lcB hot hp nd hi ok hg ht he hs) fun σ H Q h => comp_core hjs h
end
end Dt

set_option Elab.async false
set_option linter.all false
set_option maxRecDepth 100000
set_option maxHeartbeats 4000000
/-! A def called while an exception is handled, its promise told of the very exception. -/
namespace Dt
open PySem PySem.Spec PyProof.Rows L2 HotX L2H
abbrev CXf : CXT := fun _ _ _ _ _ _ => False
section
variable {P : Program} {w : World} {K : PySem.W.Frag} {mg : Str → Option Value} {base : Heap}
/-- a def's body runs while p is handled -/
theorem run_pin {CX : CXT} {x qual : Str} {st : Stmt} {f : Addr} {fd : FuncData} {N ps : List Str} {k : Nat} (F : Fun K x qual st f fd) (S : FnScope N ps (defScope st)) {A : Around} {outer : List PySem.Env} {s : Shared} {H : Hp} {args : Args} {us : List Value} {vs : List V} {Q : VK} {E : XK} {p : Addr × Obj}
    (hr : RoomH (k + 1) A) (pin : PinOk outer H s p) (e0 : Env0 P w K mg base A outer s H) (hb : BindsTo s fd args (ps.zip us)) (r : Vals vs us) (hl : vs.length = ps.length)
    (body : ∀ cd : Value, RoomH k (A.deeper (envOfC qual (defScope st) s.heap.objs.size f cd)) → ∃ t, PSs (cxH CX P w K mg base N qual (defScope st) f cd A outer s H E p) (defBody st) t ∧ t { nx := fun _ H' => Q .non H', rt := Q } (L2.start N vs) H) :
    codeAny (model P w) A (.call (.ref f) args) (CR CX outer P w H s Q E) s := by
  obtain ⟨_, _, _, _, _, _, cd, _, _, e, lk, hcd⟩ := F.ex; subst e
  have KX : K.In s.heap := e0.mod.kin.keeps fun b o e => (e0.bs b o e).1; have lim : s.heap.NoLimit := e0.mod.nolimit.keeps fun b o e => (e0.bs b o e).1
  have hkind : ∀ y ∈ ps.zip us, (defScope st).names.lookup y.1 = some .local ∨ ((defScope st).names.lookup y.1 = some .cell ∧ ((cellsFrom (s.heap.objs.size + 1) (defScope st).names []).lookup y.1).isSome = true) := fun ⟨n, v⟩ hy => (S.par n (List.of_mem_zip hy).1).imp id fun q => ⟨q, PySem.W.cellsFrom_some _ _ _ (.inl q)⟩
  refine codeAny_call_function hr.depth (KX _ _ lk) rfl S.co S.gen rfl (PySem.W.codeRec_of KX hcd) (hb _ _ _ _ (wpAny_newFunctionEnv_cells S.kind hkind fun env he s1 x => ?_)); subst he
  refine ⟨lim.keeps x.toInCall.keep, codeAny_func ?_⟩
  obtain ⟨t, ht, hq⟩ := body cd (hr.deeper _)
  refine wpAny_mono (ht.run [] s1 (L2.start N vs) H _ (inv_startH S pin e0 hl r x) hq) (fun fl s' hs => ?_) fun e s' hs => hs
  have fin : ∀ {σ' : L2.St} {H' : Hp} {v : V} {u : Value}, Inv (cxH CX P w K mg base N qual (defScope st) f cd A outer s H E p) [] σ' H' s' → RelV v u → Q v H' → CE outer P w H s Q u s' := fun {σ' H' v u} J rv q => ⟨v, H', J.os, J.bare, J.base, J.hok, rv, q⟩
  cases fl with
  | ret u => exact let ⟨v, σ', H', J, rv, q⟩ := hs; fin J rv q
  | next => exact let ⟨σ', H', J, q⟩ := hs; fin (v := V.non) (u := Value.none) J rfl q
  | brk => exact let ⟨_, _, _, q⟩ := hs; q.elim
  | cont => exact let ⟨_, _, _, q⟩ := hs; q.elim
/-- the call of a def with the exception that is handled -/
theorem pe_callP {X : Cx} {x qual y : Str} {st : Stmt} {f : Addr} {fd : FuncData} {N : List Str} {k i : Nat} {Q0 : Addr → Hp → VK → Prop} {p q pos : Pos} {pp : Addr × Obj} {e : Expr} (F : Fun X.K x qual st f fd) (S : FnScope N [y] (defScope st)) (hr : RoomH (k + 1) X.A) (hp : pp ∈ X.pn)
    (hg : Gl X x) (hm : X.mg x = some (.ref f)) (hk : PySem.W.keepIn X.K (.ref f) = true) (hb : Binds X.K fd [y] []) (he : PE X e (tVar i))
    (body : ∀ (A : Around) (outer : List PySem.Env) (s : Shared) (H : Hp) (Q : VK) (cd : Value), A.handled = X.A.handled → RoomH k (A.deeper (envOfC qual (defScope st) s.heap.objs.size f cd)) → H pp.1 = none → Q0 pp.1 H Q →
      ∃ t, PSs (cxH CXf X.prog X.w X.K X.mg X.base N qual (defScope st) f cd A outer s H (fun _ _ _ => False) pp) (defBody st) t ∧ t { nx := fun _ H' => Q .non H', rt := Q } (L2.start N [.ref pp.1]) H)
    (hdb : (x == ("__debug__" : Str)) = false := by decide) (hst : starEach [e] X.env = (false, eval e X.env) :: starEach [] X.env := by rfl) (hpl : (backTo pos (starEach [] X.env)).any (·.1) = false := by rfl) :
    PE X (.Call (.Name x p) [e] [] pos) (fun σ H Q => σ[i]? = some (some (.ref pp.1)) ∧ H pp.1 = none ∧ Q0 pp.1 H Q) := ⟨fun pins s σ H Q I ⟨h1, h2, h3⟩ => by
  refine wpAny_Call_Name_kw (ld_glob I hg hm ?_ hdb)
  refine PySem.W.callWith_K (h₀ := X.base) I.ok.mod.kin hk (thn ((pa_cons he pa_nil hst).run pos pins s σ H (fun vs H1 => vs = [.ref pp.1] ∧ H1 = H) I ⟨_, h1, rfl, rfl⟩) fun us s1 ⟨vs, H1, I1, r, ev, eH⟩ => ⟨I1.kIn, ?_⟩) hst hpl
  subst ev; rw [eH] at I1
  have P1 := I1.pin pp (List.mem_append_left _ hp)
  have hpin : PinOk X.stack H s1 pp := ⟨P1.1, P1.2.1, fun hm => (List.mem_cons.mp (I1.stkSub pp.1 hm)).elim P1.2.2.1 P1.2.2.2.1, P1.2.2.2.2⟩
  have hl : us.length = [y].length := r.length.symm
  have b := hb s1 us I1.kIn (by rw [List.append_nil]; exact hl)
  rw [List.append_nil] at b
  refine wpAny_call (codeAny_mono (run_pin (CX := CXf) (E := fun _ _ _ => False) F S hr hpin I1.env0 b r rfl fun cd hr' => body X.A X.stack s1 H Q cd rfl hr' P1.2.1 h3) fun r s' hq => ?_)
  match r, hq with
  | .ok (.ret u), hq => exact I1.after hq⟩
end
end Dt

set_option Elab.async false
set_option linter.all false
set_option maxRecDepth 100000
set_option maxHeartbeats 4000000
/-! A lambda without parameters, handed to a def that calls it and tells the word of the exception that comes. -/
namespace Dt
open PySem PySem.Spec PyProof.Rows L2 HotX L2H
/-- what of the environment is frozen data -/
def froOnly (ρ : Env) : Env := ρ.map fun c => match c with
  | .fro d => .fro d
  | _ => .no
theorem froOnly_at {ρ : Env} {i : Nat} {c : Cell} (h : (froOnly ρ)[i]? = some c) : c = .no ∨ ∃ d, c = .fro d ∧ ρ[i]? = some (.fro d) := by
  unfold froOnly at h
  rw [List.getElem?_map] at h
  cases e : ρ[i]? with
  | none => rw [e] at h; cases h
  | some c' =>
    rw [e] at h
    cases c' with
    | fro d => cases h; exact .inr ⟨d, rfl, rfl⟩
    | _ => cases h; exact .inl rfl
section
variable {T : List (Addr × Str)} {K : PySem.W.Frag} {io : Io T} {Rv F R' : Hp} {ρ : Env} {σ : L2.St} {H H1 : Hp}
theorem Rel.fros (r : Rel K io Rv ρ F σ H) (ap : Apart F R' H) : Rel K ({} : Io []) R' (froOnly ρ) F σ H := by
  have nh : ∀ {i : Nat} {c : Cell} {d : D}, (froOnly ρ)[i]? = some c → c.held = some d → False := fun {i c d} e h => by
    rcases froOnly_at e with rfl | ⟨_, rfl, _⟩ <;> cases h
  refine ⟨ap.f, ap.r, ap.d, by unfold froOnly; rw [List.length_map]; exact r.len, fun i c v e1 e2 => ?_, fun i j ci cj di dj p e1 _ h1 _ _ _ => (nh e1 h1).elim, fun ip hip => (nomatch hip), fun i d e => (nh e rfl).elim, fun t ht => (nomatch ht), ap.nt⟩
  rcases froOnly_at e1 with rfl | ⟨d, rfl, e3⟩
  · trivial
  · exact r.cell i _ v e3 e2
/-- a code object was made, the table grew -/
theorem Rel.tabled {P : Addr} {q : Str} {io : Io [(P, q)]} (r : Rel K io Rv ρ F σ H) (x : LamX.ExtN H H1) (tb : LamX.Tabs [(P, q)] H1) : ∃ F1, FLe F F1 ∧ Rel K io Rv ρ F1 σ H1 := by
  classical
  have tk := r.tab (P, q) (.head _)
  obtain ⟨tF, tR, nx, ps, tH, _⟩ := id tk
  obtain ⟨ps1, b1, b2, b3⟩ := tb (P, q) (.head _)
  have b1 : H1 P = some (.tbl ps1) := b1
  have fup : ∀ {a o}, F a = some o → H1 a = some o := fun {a o} e => x a o (r.fH a o e) fun ps z => r.nt a ps (by rw [e, z])
  have rup : ∀ {a o}, Rv a = some o → H1 a = some o := fun {a o} e => x a o (r.rH a o e) fun ps z => nx.1 a ps (by rw [e, z])
  let F1 : Hp := fun a => if H1 a = some (LamX.CodeO a q) then H1 a else F a
  have yes : ∀ {a}, H1 a = some (LamX.CodeO a q) → F1 a = some (LamX.CodeO a q) := fun {a} e => (if_pos e).trans e
  have no : ∀ {a}, H1 a ≠ some (LamX.CodeO a q) → F1 a = F a := fun {a} e => if_neg e
  have le : FLe F F1 := fun a o e => by
    by_cases h : H1 a = some (LamX.CodeO a q)
    · rw [yes h, ← h]; exact fup e
    · rw [no h]; exact e
  have own : ∀ {p d}, OwnAt K F Rv H p d → OwnAt K F1 Rv H1 p d := fun {p d} w => by
    obtain ⟨o, e, ob⟩ := w.at_
    have e1 : H1 p = some o := x p o e (ob.nt default).1
    refine ⟨?_, w.nR, o, e1, ob.mono le⟩
    rw [no (fun z => by rw [e1] at z; exact ob.nx q (Option.some.inj z))]
    exact w.nF
  refine ⟨F1, le, fun a o e => ?_, fun a o e => rup e, fun a o e => ?_, r.len, fun i c v e1 e2 => ?_, r.inj, r.ios, r.ioc, fun t ht => ?_, fun a ps z => ?_⟩
  · by_cases h : H1 a = some (LamX.CodeO a q)
    · rw [yes h] at e; rw [h]; exact e
    · rw [no h] at e; exact fup e
  · by_cases h : H1 a = some (LamX.CodeO a q)
    · cases e2 : Rv a with
      | none => rfl
      | some o' => have z := rup e2; rw [h] at z; cases z; exact (nx.2 a q e2).elim
    · rw [no h] at e; exact r.dj a o e
  · have k := r.cell i c v e1 e2
    cases c with
    | no => trivial
    | fro d => obtain ⟨y, e, rp⟩ := k; exact ⟨y, e, rp.mono le⟩
    | own d => obtain ⟨p, e, w⟩ := k; exact ⟨p, e, own w⟩
    | io d => obtain ⟨p, e, w⟩ := k; exact ⟨p, e, own w⟩
  · have et : t = (P, q) := List.mem_singleton.mp ht
    subst et
    refine ⟨?_, tR, nx, ps1, b1, b2, fun pos cv hc => ?_⟩
    · show F1 P = none
      rw [no (fun z => by rw [b1] at z; exact LamX.codeO_ne ps1 (Option.some.inj z).symm)]
      exact tF
    · obtain ⟨c, e, k⟩ := b3 pos cv hc
      exact ⟨c, e, yes k⟩
  · by_cases h : H1 a = some (LamX.CodeO a q)
    · rw [yes h] at z; exact LamX.codeO_ne ps (Option.some.inj z)
    · rw [no h] at z; exact r.nt a ps z
theorem Rel.tabsOf {P : Addr} {q : Str} {io : Io [(P, q)]} (r : Rel K io Rv ρ F σ H) : LamX.Tabs [(P, q)] H := fun p hp => by
  have e : p = (P, q) := List.mem_singleton.mp hp
  subst e
  obtain ⟨_, _, _, ps, e1, e2, e3⟩ := r.tab (P, q) (.head _)
  exact ⟨ps, e1, e2, fun pos cv h => let ⟨c, e, k⟩ := e3 pos cv h; ⟨c, e, r.fH _ _ k⟩⟩
end
/-! ### the lambda's body -/
abbrev lamCxN (X : Cx) (A : Around) (outer : List PySem.Env) (s : Shared) (H : Hp) (E : XK) (scope : Scope) (f c : Addr) : Cx :=
  (LamX.lamCx X A outer s H E scope f c).tr [] fun e s' => wpAny (model X.prog X.w) (A.deeper (LamX.lamEnv X scope s.heap.objs.size f c)) (leaving (LamX.lamEnv X scope s.heap.objs.size f c) e) (fun _ s'' => L2N.CX X.prog X.w outer H s E e s'') (fun e' s'' => L2N.CX X.prog X.w outer H s E e' s'') s'
section
variable {X : Cx} {pins : List (Addr × Obj)} {σ : L2.St} {H : Hp} {s : Shared}
theorem at_lam {A : Around} {outer : List PySem.Env} {E : XK} {scope : Scope} {f c : Addr} {k : Nat} (nd : X.N.Nodup) (hr : Room k (A.deeper (LamX.lamEnv X scope s.heap.objs.size f c))) : At (lamCxN X A outer s H E scope f c) (wE E) :=
  ⟨rfl, nd, hr.units, L2N.takes_of (E₁ := fun e' s'' => L2N.CX X.prog X.w outer H s E e' s'') rfl rfl rfl rfl⟩
/-- the call of what the def got: the lambda's body runs -/
theorem pe_actN {CXg : CXT} {Eg : XK} {Ng : List Str} {qg : Str} {sg : Scope} {g f c : Addr} {cdg pm ctv : Value} {params : Arguments} {body : Expr} {scope : Scope} {k i : Nat} {a : Str} {pn : List (Addr × Obj)} {xe : Value → Shared → Prop} {W : WX} {E : XK} {tb : TE} {p1 p2 : Pos}
    (I : Inv X pins σ H s) (L : LamX.LamS X.env.scope scope) (hf : s.heap.get? f = some (PySem.W.kla_obj "<lambda>" (X.env.qual ++ "<lambda>") params body scope (cloFrom X.env.cells scope.names []) pm c ctv)) (hfn : H f = none) (hfr : f ∉ frs X.stack)
    (hbind : bindArgs (PySem.W.kla_fn "<lambda>" (X.env.qual ++ "<lambda>") params body scope (cloFrom X.env.cells scope.names []) pm (.ref c) ctv) ⟨[], []⟩ = pure [])
    (tk : L2N.Takes ((cxOf CXg X.prog X.w X.K X.mg X.base Ng qg sg g cdg X.A X.stack s H Eg).tr pn xe) W) (hr : Room (k + 1) (X.A.deeper (envOfC qg sg s.heap.objs.size g cdg)))
    (hbody : ∀ (A : Around) (outer : List PySem.Env) (s : Shared) (H : Hp), Room k (A.deeper (LamX.lamEnv X scope s.heap.objs.size f c)) → PE (lamCxN X A outer s H E scope f c) body tb)
    (hN : Ng[i]? = some a) (hv : Vis sg a) (hd : (a == ("__debug__" : Str)) = false := by decide) (hcd : (a == ("__classdict__" : Str)) = false := by decide) :
    PE ((cxOf CXg X.prog X.w X.K X.mg X.base Ng qg sg g cdg X.A X.stack s H Eg).tr pn xe) (.Call (.Name a p1) [] [] p2)
      (fun σZ HZ Q => (∀ cls d H', E cls d H' → W cls d σZ H') ∧ σZ[i]? = some (some (.ref f)) ∧ HZ c = some (LamX.CodeO c (X.env.qual ++ "<lambda>")) ∧ tb σ HZ Q) := ⟨fun pinsZ sZ σZ HZ Q IZ ⟨hW, hs, hc, ht⟩ => by
  refine wpAny_Call_Name_kw (thn ((pe_var (pos := p1) (i := i) hN hv hd hcd).run pinsZ sZ σZ HZ (fun v H1 => v = .ref f ∧ H1 = HZ) IZ ⟨.ref f, hs, rfl, rfl⟩) fun u s1 ⟨v, H1, I1, r1, ev, eH⟩ => ?_); subst ev
  rw [eH] at I1; obtain rfl : u = Value.ref f := r1
  have of1 := I1.base.keep f _ hf hfn hfr (fun z => nomatch (show f ∈ ([] : List Addr) from z)); refine PySem.W.callWith_F0 ⟨_, _, _, _, of1⟩ ?_
  obtain ⟨⟨oc, vs, t, hoc, hdc, hvc⟩, _, _⟩ := I1.hok c _ hc; have e0 := I1.env0
  have rc : codeAny (model X.prog X.w) (X.A.deeper (envOfC qg sg s.heap.objs.size g cdg)) (.call (.ref f) ⟨[], []⟩) (CR (L2N.CX X.prog X.w) (envOfC qg sg s.heap.objs.size g cdg :: X.stack) X.prog X.w HZ s1 Q E) s1 := by
    refine PySem.W.kla_callFunE hr.depth of1 rfl L.co L.gen rfl ⟨c, oc, vs, t, rfl, hoc, hdc, hvc⟩ (hbind ▸ wpAny_pure (wpAny_newFunctionEnv (fun y hy => (L.own y hy).2) (fun y hy => nomatch hy) (fun h₁ hns hsb => ⟨I1.nolimit.fresh _ hsb, ?_⟩) L.kind))
    have J0 : Inv (LamX.lamCx X (X.A.deeper (envOfC qg sg s.heap.objs.size g cdg)) (envOfC qg sg s.heap.objs.size g cdg :: X.stack) s1 HZ E scope f c) [] σ HZ { s1 with heap := h₁, toks := s1.toks + ([] : List (Str × Value)).length } := LamX.lam_start2 I L e0 hr.hd I1.base hns fun b o e => hsb.extBut b o (Nat.ne_of_lt (Heap.lt_size e)) (Heap.get?_push_of_some _ e)
    have J := J0.toTry (lamCxN X (X.A.deeper (envOfC qg sg s.heap.objs.size g cdg)) (envOfC qg sg s.heap.objs.size g cdg :: X.stack) s1 HZ E scope f c).xe
    exact PySem.W.kla_codeExpr (wpAny_mono ((hbody _ _ s1 HZ (hr.deeper _)).run [] _ _ HZ Q J ht) (fun v s' ⟨w', H', J', rv, q⟩ => ⟨w', H', J'.os, J'.bare, J'.base, J'.hok, rv, q⟩) fun e s' hq => hq)
  refine wpAny_call (codeAny_mono rc fun r s' hq => ?_)
  match r, hq with
  | .error e, hq => exact tk e s' (L2N.XE.of_call I1 hW hq)
  | .ok (.ret u), hq => exact I1.after hq⟩
end
end Dt

set_option Elab.async false
set_option linter.all false
set_option maxRecDepth 100000
set_option maxHeartbeats 4000000
/-! tried(lambda: e): its value, or the word of the exception. -/
namespace Dt
open PySem PySem.Spec PyProof.Rows L2 HotX L2H
/-- a def that tells the word of the exception that is handled -/
structure WordAt (P : Program) (w : World) (K : PySem.W.Frag) (mg : Str → Option Value) (base : Heap) (k : Nat) (x : Str) (Good : Addr → Str → Prop) : Prop where
  there : ∃ (f : Addr) (fd : FuncData) (y : Str), mg x = some (.ref f) ∧ PySem.W.keepIn K (.ref f) = true ∧ Binds K fd [y] [] ∧
    ∀ (A : Around) (outer : List PySem.Env) (s : Shared) (H : Hp) (args : Args) (us : List Value) (Q : VK) (p : Addr × Obj) (C : Addr) (wd : Str), RoomH k A → Hot1 A p → PinOk outer H s p → Env0 P w K mg base A outer s H → BindsTo s fd args ([y].zip us) → Vals [.ref p.1] us →
      Zc (.ref C) none p.2 → Good C wd → (∀ H', (∀ b o, H b = some o → H' b = some o) → Q (.str wd) H') → codeAny (model P w) A (.call (.ref f) args) (CR CXf outer P w H s Q fun _ _ _ => False) s
/-- .. by its body's derivation -/
theorem word_at {P : Program} {w : World} {K : PySem.W.Frag} {mg : Str → Option Value} {base : Heap} {k m : Nat} {x y : Str} {st : Stmt} {N : List Str} {ea : String → Addr} {Good : Addr → Str → Prop} {W : WX} (F : Fn K mg x st [y]) (S : FnScope N [y] (defScope st)) (hm : N.length = m + 1)
    (h : ∀ (f : Addr) (cd : Value) (A : Around) (outer : List PySem.Env) (s : Shared) (H : Hp) (p : Addr × Obj) (C : Addr) (wd : Str), Hot1 A p → RoomH k (A.deeper (envOfC x (defScope st) s.heap.objs.size f cd)) → Zc (.ref C) none p.2 → Good C wd →
      ∃ body : SS, DSs ⟨K, ⟨ea, []⟩⟩ (cxH CXf P w K mg base N x (defScope st) f cd A outer s H (fun _ _ _ => False) p) W (defBody st) body ∧ ∃ ρ', body (.fro (.exn p.1) :: List.replicate m .no) = .ok (.rt (.str wd)) ρ') : WordAt P w K mg base (k + 1) x Good := by
  obtain ⟨f, fd, F, mx, hb⟩ := F.there
  refine ⟨f, fd, y, mx, F.kp, hb, fun A outer s H args us Q p C wd hr hot pin e0 b r hz g q => run_pin F S hr pin e0 b r rfl fun cd hr' => ?_⟩
  obtain ⟨body, d, ρ', e⟩ := h f cd A outer s H p C wd hot hr' hz g
  refine ⟨_, d, .fro (.exn p.1) :: List.replicate m .no, fun _ => none, H, {}, ⟨(fun a o z => nomatch z), (fun a o z => z), (fun a o z => nomatch z), ?_, fun i c v e1 e2 => ?_, fun i j ci cj di dj pp e1 _ h1 _ _ _ => ?_, fun ip hip => (nomatch hip), fun i d e1 => ?_, fun t ht => (nomatch ht), fun a ps z => nomatch z⟩, ?_⟩
  · unfold L2.start
    simp [hm]
  · cases i with
    | zero =>
      simp [L2.start] at e1 e2
      subst e1 e2
      exact ⟨_, rfl, .exn _⟩
    | succ i =>
      rw [List.getElem?_cons_succ, List.getElem?_replicate] at e1
      split at e1
      · cases e1; trivial
      · cases e1
  · cases i with
    | zero => cases e1; cases h1
    | succ i =>
      rw [List.getElem?_cons_succ, List.getElem?_replicate] at e1
      split at e1
      · cases e1; cases h1
      · cases e1
  · cases i with
    | zero => cases e1
    | succ i =>
      rw [List.getElem?_cons_succ, List.getElem?_replicate] at e1
      split at e1 <;> cases e1
  · rw [e]
    intro v σ' H' F' le rel rp
    cases rp
    exact q H' fun b o z => rel.rH b o z
/-- the value, or what the exception makes -/
def sTried (wd : Exn → Option D) (s : SE) : SE := fun ρ => match s (froOnly ρ) with
  | .ok d _ => .ok d ρ
  | .exc x _ => ofO (wd x) ρ
  | .stuck => .stuck
@[simp] theorem ev_tried (wd : Exn → Option D) (s : SE) (ρ : Env) : sTried wd s ρ = match s (froOnly ρ) with
  | .ok d _ => .ok d ρ
  | .exc x _ => ofO (wd x) ρ
  | .stuck => .stuck := rfl
section
variable {X : Cx} {W : WX}
theorem d_tried {c P CE : Addr} {k kw : Nat} {ea : String → Addr} {xt xw : Str} {tc tw : Str} {te : Str} {stt : Stmt} {Good : Addr → Str → Prop} {wd : Exn → Option D} {params : Arguments} {body : Expr} {scope : Scope} {sb : SE} {p lpos pos p1 p2 p3 p4 p5 p6 p7 p8 p9 p10 : Pos}
    (hu : At X W) (tb : LamX.TabB X.base X.mg c P) (hcd : X.env.code = .ref c) (Ft : Fn X.K X.mg xt stt [tc]) (St : FnScope [tc, te] [tc] (defScope stt)) (hr : Room (k + 2) X.A) (hg : Gl X xt)
    (hbd : defBody stt = [.Try [.Return (some (.Call (.Name tc p1) [] [] p2)) p3] [.ExceptHandler (some (.Name tw p4)) (some te) [.Return (some (.Call (.Name xw p5) [.Name te p6] [] p7)) p8] p9] [] [] p10])
    (hce : X.mg tw = some (.ref CE)) (gce : (defScope stt).names.lookup tw = some .globalImplicit) (gxw : (defScope stt).names.lookup xw = some .globalImplicit) (vtc : (defScope stt).names.lookup tc = some .local) (vte : (defScope stt).names.lookup te = some .local)
    (Wd : WordAt X.prog X.w X.K X.mg X.base kw xw Good) (hkw : kw ≤ k) (hwd : ∀ x d, wd x = some d → x.arg = .non ∧ PySem.W.exmOne X.K (.ref (ea x.cls)) (.ref CE) = some true ∧ ∃ w, d = .str w ∧ Good (ea x.cls) w)
    (L : LamX.LamS X.env.scope scope) (hdef : defaultsOf params X.env = ([], [])) (hbind : ∀ (q : Str) (cl : List (Str × Addr)) (pm cv ctv : Value), bindArgs (PySem.W.kla_fn "<lambda>" q params body scope cl pm cv ctv) ⟨[], []⟩ = pure [])
    (hbody : ∀ (A : Around) (outer : List PySem.Env) (s : Shared) (H : Hp) (E : XK) (f c' : Addr), Room k (A.deeper (LamX.lamEnv X scope s.heap.objs.size f c')) → DE ⟨X.K, ⟨ea, []⟩⟩ (lamCxN X A outer s H E scope f c') (wE E) body sb)
    (d1 : (xt == ("__debug__" : Str)) = false := by decide) (d2 : (tc == ("__debug__" : Str)) = false := by decide) (d3 : (tc == ("__classdict__" : Str)) = false := by decide) (d4 : (tw == ("__debug__" : Str)) = false := by decide) (d5 : (xw == ("__debug__" : Str)) = false := by decide) (d6 : (te == ("__debug__" : Str)) = false := by decide)
    (d7 : (te == ("__classdict__" : Str)) = false := by decide) :
    DE ⟨X.K, ⟨ea, [(P, X.env.qual ++ "<lambda>")]⟩⟩ X W (.Call (.Name xt p) [.Lambda params body scope lpos] [] pos) (sTried wd sb) := ⟨fun pins s σ H Q I ⟨ρ, F, Rv, io, rel, q⟩ => by
  obtain ⟨g, fdg, Ff, hm, hb⟩ := Ft.there
  obtain ⟨fw, fdw, yw, mw, kpw, bw, runw⟩ := Wd.there
  refine wpAny_Call_Name_kw (ld_glob I hg hm ?_ d1)
  refine PySem.W.callWith_K (h₀ := X.base) I.ok.mod.kin Ff.kp ?_ (by rfl) (by rfl)
  show wpAny _ _ (spliced ((false, eval (.Lambda params body scope lpos) X.env) :: backTo pos (starEach [] X.env))) _ _ s
  have rel : Rel X.K io Rv ρ F σ H := rel
  refine Calls.spliced_cons (LamX.lam_make2 (T := [(P, X.env.qual ++ "<lambda>")]) I tb hcd (.head _) (fun p hp _ => by rw [List.mem_singleton.mp hp]) rel.tabsOf hdef (L.has I.ok) fun f c' pm' ctv H1 s' I1 eN T1 hf hfn hfr hco => ?_)
  refine Calls.spliced_nil ⟨I1.kIn, ?_⟩
  obtain ⟨F1, le1, rel1⟩ := rel.tabled eN T1
  have rel2 := rel1.fros (restOf_apart rel1 none)
  obtain ⟨_, _, _, _, _, _, cdv, _, _, ef, lk, hcg⟩ := Ff.ex
  -- what comes back
  have fin : ∀ {F' H' : Hp} {v : V} {d : D} , FLe F1 F' → Apart F' (restOf F1 H1 none) H' → Rp X.K F' v d → (match sTried wd sb ρ with | .ok d' _ => d' = d | _ => False) → Q v H' := fun {F' H' v d} le ap rp hd => by
    have r3 := rel1.behind le ap
    unfold sTried at q hd
    cases e : sb (froOnly ρ) with
    | stuck => rw [e] at q; exact q.elim
    | ok d' ρ' => rw [e] at q hd; cases hd; exact q v H' F' (le1.trans le) r3 rp
    | exc x ρ' =>
      rw [e] at q hd
      simp only at q hd
      cases e2 : wd x with
      | none => rw [e2] at q; exact q.elim
      | some d' => rw [e2] at q hd; cases hd; exact q v H' F' (le1.trans le) r3 rp
  have rc : codeAny (model X.prog X.w) X.A (.call (.ref g) ⟨[.ref f], []⟩) (CR CXf X.stack X.prog X.w H1 s' Q fun _ _ _ => False) s' := by
    subst ef
    refine LamX.run_ofS (N := [tc, te]) (ps := [tc]) (us := [.ref f]) (vs := [.ref f]) lk hcg St hr I1.env0 (hb s' [.ref f] I1.kIn rfl) (.cons rfl .nil) rfl fun hr' => ?_
    have hbd' : defBody stt = _ := hbd
    rw [hbd']
    refine ⟨_, pss_one (L2N.ps_try_as (X := cxOf CXf X.prog X.w X.K X.mg X.base [tc, te] xt (defScope stt) g cdv X.A X.stack s' H1 fun _ _ _ => False) (i := 1) (n := te) (c := .ref CE) (Wout := fun _ _ _ _ => False)
      (tb := fun W D σZ HZ => ∃ E : XK, (∀ cls d H', E cls d H' → W cls d σZ H') ∧ σZ[0]? = some (some (.ref f)) ∧ HZ c' = some (LamX.CodeO c' (X.env.qual ++ "<lambda>")) ∧ tE ⟨X.K, ⟨ea, []⟩⟩ (wE E) sb σ HZ D.rt)
      (ts := fun a cls d D σ H => ∃ C w, cls = .ref C ∧ d = none ∧ Good C w ∧ σ[1]? = some (some (.ref a)) ∧ H a = none ∧ ∀ H', (∀ b o, H b = some o → H' b = some o) → D.rt (.str w) H')
      rfl rfl St.nd rfl vte ⟨gce, d4, .inl hce⟩ takes0N (fun W pn xe tk _ => ?_) (fun a oe cls d pn hz hfl => ?_)), ?_⟩
    · refine ⟨fun pins s2 σ2 H2 D I2 ⟨E, hW, h1, h2, h3⟩ => ?_⟩
      have hp := pe_actN (i := 0) (a := tc) (E := E) (p1 := p1) (p2 := p2) I1 L hf hfn hfr (hbind _ _ _ _ _) tk hr' (fun A outer s H hr2 => hbody A outer s H E f c' hr2) rfl (.inl vtc) d2 d3
      exact (pss_one (ps_ret (pos := p3) hp)).run pins s2 σ2 H2 D I2 ⟨hW, h1, h2, h3⟩
    · refine ⟨fun pins s2 σ2 H2 D I2 ⟨C, w, e1, e2, gd, h1, h2, h3⟩ => ?_⟩
      subst e1 e2
      obtain ⟨vs, hv⟩ := hfl
      have hot : Hot1 ((cxOf CXf X.prog X.w X.K X.mg X.base [tc, te] xt (defScope stt) g cdv X.A X.stack s' H1 fun _ _ _ => False).suite a ((a, oe) :: pn)).A (a, oe) := ⟨rfl, vs, hv, hz.2.2 vs hv⟩
      have hrm : RoomH kw ((cxOf CXf X.prog X.w X.K X.mg X.base [tc, te] xt (defScope stt) g cdv X.A X.stack s' H1 fun _ _ _ => False).suite a ((a, oe) :: pn)).A := by
        have z := (roomH_of hr').mono (show kw ≤ k + 1 by omega)
        exact ⟨z.dp, z.un⟩
      have call : PE ((cxOf CXf X.prog X.w X.K X.mg X.base [tc, te] xt (defScope stt) g cdv X.A X.stack s' H1 fun _ _ _ => False).suite a ((a, oe) :: pn)) (.Call (.Name xw p5) [.Name te p6] [] p7)
          (fun σ H Q => σ[1]? = some (some (.ref a)) ∧ ∀ H', (∀ b o, H b = some o → H' b = some o) → Q (.str w) H') := ⟨fun pins s σ H Q I ⟨h1, h3⟩ => by
        refine wpAny_Call_Name_kw (ld_glob I gxw mw ?_ d5)
        refine PySem.W.callWith_K (h₀ := X.base) I.ok.mod.kin kpw (thn ((pa_cons (pe_var (i := 1) rfl (.inl vte) d6 d7) pa_nil rfl).run p7 pins s σ H (fun vs H1 => vs = [.ref a] ∧ H1 = H) I ⟨_, h1, rfl, rfl⟩) fun us s1 ⟨vs, H1, I1, r, ev, eH⟩ => ⟨I1.kIn, ?_⟩) (by rfl) (by rfl)
        subst ev; rw [eH] at I1
        have P1 := I1.pin (a, oe) (List.mem_append_left _ (.head _))
        have b := bw s1 us I1.kIn (by rw [List.append_nil]; exact r.length.symm)
        rw [List.append_nil] at b
        refine wpAny_call (codeAny_mono (runw _ _ s1 H _ us Q (a, oe) C w hrm hot ⟨P1.1, P1.2.1, fun hm => (List.mem_cons.mp (I1.stkSub a hm)).elim P1.2.2.1 P1.2.2.2.1, P1.2.2.2.2⟩ I1.env0 b r hz.zc gd h3) fun r s' hq => ?_)
        match r, hq with
        | .ok (.ret u), hq => exact I1.after hq⟩
      exact (pss_one (ps_ret (pos := p8) call)).run pins s2 σ2 H2 D I2 ⟨h1, h3⟩
    · refine ⟨fun cls dd H' => ∃ C w, cls = .ref C ∧ dd = none ∧ Good C w ∧ PySem.W.exmOne X.K cls (.ref CE) = some true ∧ ∀ H'', (∀ b o, H' b = some o → H'' b = some o) → Q (.str w) H'', fun cls d H' ⟨C, w, e1, e2, gd, em, h3⟩ => ⟨true, em, fun _ a na => ⟨C, w, e1, e2, gd, rfl, na, h3⟩, fun z => nomatch z⟩, rfl, hco, froOnly ρ, F1, restOf F1 H1 none, {}, rel2, ?_⟩
      cases e : sb (froOnly ρ) with
      | stuck => unfold sTried at q; rw [e] at q; exact q.elim
      | ok d ρ' => exact fun v H' F' le r rp => fin le ⟨r.fH, r.rH, r.dj, r.nt⟩ rp (by unfold sTried; rw [e])
      | exc x ρ' =>
        intro cls dd σ' H' F' le r xr
        cases e2 : wd x with
        | none => unfold sTried at q; rw [e] at q; simp only [e2] at q; exact q.elim
        | some d =>
          obtain ⟨eax, em, w, rfl, gd⟩ := hwd x d e2
          obtain ⟨xc, xd⟩ := xr
          rw [eax] at xd
          refine ⟨ea x.cls, w, xc, xd, gd, by rw [xc]; exact em, fun H'' up => fin (F' := F') (d := .str w) le ⟨fun a o z => up a o (r.fH a o z), fun a o z => up a o (r.rH a o z), r.dj, r.nt⟩ (.str w) ?_⟩
          unfold sTried
          rw [e]
          simp only [e2]
          rfl
  refine wpAny_call (codeAny_mono rc fun r s2 hq => ?_)
  match r, hq with
  | .ok (.ret u), hq => exact I1.after hq⟩
end
end Dt

set_option Elab.async false
set_option linter.all false
set_option maxRecDepth 100000
set_option maxHeartbeats 4000000
/-! The law's start where the law makes lambdas; what the classes say. -/
namespace Dt
open PySem PySem.Spec PyProof.Rows L2 HotX L2H
/-- what a class that is raised says; CE: the class of the handler -/
structure ExcD (K : PySem.W.Frag) (C CE : Addr) : Prop where
  e : PySem.W.excIn K C veB "ValueError.__new__" = true
  k : PySem.W.keepIn K (.ref C) = true
  b : PySem.W.subIn K (.ref C) (.type "BaseException") = some true
  t : PySem.W.typeIn K (.ref C) = some (.type "type")
  hg : PySem.W.findIn K (.ref C) "__getattribute__" = some (some (.builtin "BaseException.__getattribute__"))
  hk : PySem.W.findIn K (.ref C) "__getattr__" = some none
  hd : PySem.W.hasDictIn K C = true
  ha : PySem.W.findIn K (.ref C) "__class__" = some (some (.builtin "object.__class__"))
  hn : PySem.W.specialIn K (.builtin "object.__class__") "__get__" = some (some (.builtin "getset_descriptor.__get__"))
  ht : PySem.W.takesIn K (.builtin "object.__class__") = some true
  hm : PySem.W.mroIn K C (.type "object") = some true
  cb : PySem.W.subIn K (.ref CE) (.type "BaseException") = some true
  cd : PySem.W.hasDictIn K CE = true
  ct : PySem.W.typeIn K (.ref CE) = some (.type "type")
  cs : PySem.W.subIn K (.ref C) (.ref CE) = some true
theorem ExcD.c {K : PySem.W.Frag} {C CE : Addr} (h : ExcD K C CE) : ExcC K C := ⟨h.hg, h.hk, h.b, h.hd, h.ha, h.hn, h.ht, h.hm⟩
theorem ExcD.exm {K : PySem.W.Frag} {C CE : Addr} (h : ExcD K C CE) : PySem.W.exmOne K (.ref C) (.ref CE) = some true := PySem.W.exm_ref h.cb h.cd h.ct h.cs
theorem ExcD.kk {K : PySem.W.Frag} {mg : Str → Option Value} {CE : Addr} {n : String} (h : ExcD K (exA K n) CE) (m : mg (Str.ofString n) = some (.ref (exA K n))) : ExcK K mg n := ⟨m, h.e, h.k, h.b, h.t⟩
/-- what the lambdas of a def are called -/
def lamQ (x : Str) (st : Stmt) : Str := (envOfC x (defScope st) 0 0 .none).qual ++ "<lambda>"
/-- the law's promise where its table is empty -/
def spT (K : PySem.W.Frag) (P : Addr) (m : List D → FR) : Sp := fun vs H Q E => ∃ a ns o, vs = [.ref a] ∧ H P = some (.tbl #[]) ∧ SqL K H a (ns.map V.int) ∧ m [.scr ns] = .ok (.bl true) o ∧ ∀ H', Q (.bl true) H'
section
variable {P : Program} {w : World} {K : PySem.W.Frag} {mg : Str → Option Value} {base : Heap}
theorem law_T {x y : Str} {st : Stmt} {fa c Tb : Addr} {N : List Str} {k : Nat} {ea : String → Addr} {body : SS} {kV doc pm ct oc : Value} {an od : Option Addr} {osl : Array (Option Value)}
    (lk : K.lookup fa = some ⟨oc, od, .func (PySem.W.fnOf x x (defArgs st) (defBody st) (defScope st) .none kV doc pm an (.ref c) ct), osl⟩) (hcd : PySem.W.codeIn K (.ref c) x = true) (S : FnScope N [y] (defScope st))
    (h : ∀ (A : Around) (outer : List PySem.Env) (s : Shared) (H : Hp) (E : XK), Room k (A.deeper (envOfC x (defScope st) s.heap.objs.size fa (.ref c))) →
      DSs ⟨K, ⟨ea, [(Tb, lamQ x st)]⟩⟩ (cxOf (L2N.CX P w) P w K mg base N x (defScope st) fa (.ref c) A outer s H E) (wE E) (defBody st) body) :
    FnOk P w K mg base (L2N.CX P w) (k + 1) fa (PySem.W.fnOf x x (defArgs st) (defBody st) (defScope st) .none kV doc pm an (.ref c) ct) [y] (spT K Tb (runP N.length 1 body)) := by
  refine fn_of lk hcd S (fun vs H Q E ⟨a, _, _, e, _⟩ => by rw [e]; rfl) fun A outer s H vs Q E hr ⟨a, ns, o, ev, hT, hS, hm, q⟩ => ⟨_, h A outer s H E hr, ?_⟩
  subst ev
  classical
  let F : Hp := fun b => if ∃ ps, H b = some (.tbl ps) then none else H b
  have hF : ∀ {b u}, H b = some u → (∀ ps, u ≠ .tbl ps) → F b = some u := fun {b u} e n => (if_neg (fun ⟨ps, z⟩ => n ps (Option.some.inj (e.symm.trans z)))).trans e
  have fH : FLe F H := fun b u e => by
    by_cases z : ∃ ps, H b = some (.tbl ps)
    · rw [show F b = none from if_pos z] at e; cases e
    · rw [show F b = H b from if_neg z] at e; exact e
  have nt : NoTb F := fun b ps e => by
    have z : F b = none := if_pos ⟨ps, fH b _ e⟩
    rw [z] at e; cases e
  have sF : SqL K F a (ns.map V.int) := by
    rcases hS with (r | ⟨o, r⟩) | r
    · exact .inl (.inl (hF r fun _ z => nomatch z))
    · exact .inl (.inr ⟨o, hF r fun _ z => nomatch z⟩)
    · exact .inr r
  have e0 : L2.start N [.ref a] = [V.ref a].map some ++ List.replicate (N.length - 1) none := rfl
  rw [e0]
  have rp : Rps K F [V.ref a] [.scr ns] := .cons (.scr sF) .nil
  have r0 := rel_start (m := N.length - 1) (K := K) (Rv := fun _ => none) ⟨fH, (fun a o z => nomatch z), (fun _ _ _ => rfl), nt⟩ rp
  refine ⟨[D.scr ns].map Cell.fro ++ List.replicate (N.length - 1) Cell.no, F, fun _ => none, {}, ⟨r0.fH, r0.rH, r0.dj, r0.len, r0.cell, r0.inj, fun ip hip => (nomatch hip), (fun i d e => (nomatch fro_held (c := .io d) e)), fun t ht => ?_, nt⟩, ?_⟩
  · have et : t = (Tb, lamQ x st) := List.mem_singleton.mp ht
    subst et
    exact ⟨if_pos ⟨_, hT⟩, rfl, ⟨(fun a ps z => nomatch z), fun a q z => nomatch z⟩, #[], hT, trivial, fun pos cv z => by simp [codeAmong] at z⟩
  · unfold runP at hm
    have hm : (match body ([D.scr ns].map Cell.fro ++ List.replicate (N.length - 1) Cell.no) with | .ok (.rt d) _ => FR.ok d [] | .ok .nx _ => .ok .non [] | .exc x _ => .exc x | _ => .stuck) = .ok (.bl true) o := hm
    cases e : body ([D.scr ns].map Cell.fro ++ List.replicate (N.length - 1) Cell.no) with
    | stuck => rw [e] at hm; cases hm
    | exc x ρ' => rw [e] at hm; cases hm
    | ok fl ρ' =>
      rw [e] at hm
      cases fl with
      | rt d => cases hm; exact fun v σ' H' F' le rel rp => by cases rp; exact q H'
      | nx => cases hm
      | bk => cases hm
      | ct => cases hm
end
theorem walkT {xp : Str} {l : PySem.W.OpenLaw} {q : Program} {loose : List Str} {XP : (Str → Option Value) → Heap → Prop} {YP : World → Heap → Prop} {d : DefRec} {K : Params → PySem.W.Frag} {k : Nat} {m : List D → FR} (hn : l.most = some 63) (hdf : d.params.defaults = []) (hr : Room k callerA)
    (hrec : ((recsOf q).any fun e => e.name == d.name) = true) (hY : ∀ (w : World) (h : Heap), YP w h → (K w.params).In h)
    (F : ∀ (w : World) (mg : Str → Option Value) (fa : Addr) (h : Heap), (K w.params).In h → h.Ns mainGlobals mg → mg d.name = some (.ref fa) →
      ∃ (fd : FuncData) (c P : Addr) (o1 : Obj) (e : Value) (dd : Option Addr) (vs : Array Value) (sl : Array (Option Value)), (K w.params).lookup fa = some o1 ∧ o1.data = .func fd ∧ fd.code = .ref c ∧ (K w.params).lookup c = some ⟨e, dd, .fields vs, sl⟩ ∧ vs[11]? = some (.ref P) ∧
        PySem.W.codeHdIn (K w.params) c P = true ∧ (K w.params).lookup P = none ∧ (∀ (s : Shared) (u : Value), BindsTo s fd ⟨[u], []⟩ [(xp, u)]) ∧
        ∀ base : Heap, (K w.params).In base → base.Ns mainGlobals mg → LamX.TabB base mg c P → FnOk l.prog w (K w.params) mg base (L2N.CX l.prog w) k fa fd [xp] (spT (K w.params) P m))
    (plain : ∀ ns : List Int, ns.length ≤ 63 → (∀ z ∈ ns, Builtin.Int.intBits z ≤ 1048576) → ∃ o, m [.scr ns] = .ok (.bl true) o) :
    PySem.W.WalkO q loose XP YP l.row.toRowW d [] (fun f vs => PySem.call f vs) :=
  LamX.walk_ofOwn (n := 63) (k := k) (x := xp) (CX := fun w => L2N.CX l.prog w) hn (by decide) hdf hr hrec hY (fun w mg fa h Y KX G hmg own => by
    obtain ⟨fd, c, P, o1, e, dd, vs, sl, k1, k2, k3, k4, k5, k6, k7, hb, hF⟩ := F w mg fa h KX G hmg
    refine ⟨fd, [(c, P)], spT (K w.params) P m, fun p hp => ?_, fun p hp => ?_, fun p hp => ?_, hb, fun H a ns hl hbits hT hS => ?_, fun base kb gb hTB => hF base kb gb (hTB (c, P) (.head _))⟩
    · rw [List.mem_singleton.mp hp]; exact own c P o1 fd e dd vs sl k1 k2 k3 k4 k5
    · rw [List.mem_singleton.mp hp]; exact k7
    · rw [List.mem_singleton.mp hp]; exact PySem.W.codeHd_of_K KX k6
    · obtain ⟨o, z⟩ := plain ns hl hbits
      exact ⟨a, ns, o, rfl, hT (c, P) (.head _), hS, z, fun _ => rfl⟩) fun w H s e s' z => by
    obtain ⟨_, _, _, _, _, _, _, _, _, _, _, _, z⟩ := z
    exact z
end Dt

set_option Elab.async false
set_option linter.all false
set_option maxRecDepth 100000
set_option maxHeartbeats 4000000
/-! sorted(set(a)), a a list of texts. -/
namespace Dt
open PySem PySem.Spec PyProof.Rows L2
def keyT (e : Int × Value) : Str := match e.2 with
  | .str x _ => x
  | _ => Str.empty
def GoodT (w : World) (e : Int × Value) : Prop := ∃ x tk, e.2 = Value.str x tk ∧ e.1 = hashStr w x
/-- the set of texts at a: S its members, n their number; its table rises and can be walked -/
def SetS (w : World) (h : Heap) (a : Addr) (S : Str → Bool) (n : Nat) : Prop :=
  ∃ o es ep t, h.get? a = some o ∧ o.ExactSet ∧ o.data = .set es ep t ∧ (∀ e ∈ es.toList, GoodT w e) ∧ (es.toList.map keyT).Nodup ∧ (∀ k, S k = true ↔ k ∈ es.toList.map keyT) ∧ es.size < scanBound ∧ t.fits es.size = true ∧ es.size = n ∧ Ris t.place.toList ∧ (w.params.followText "set-order" = true ∨ t.led = true)
section
variable {P : Program} {w : World} {h h' : Heap} {a : Addr} {S : Str → Bool} {n : Nat}
theorem SetS.at_ (R : SetS w h a S n) (k : ∀ o, h.get? a = some o → h'.get? a = some o) : SetS w h' a S n := let ⟨o, es, ep, t, ho, r⟩ := R; ⟨o, es, ep, t, k o ho, r⟩
theorem SetS.congr {S' : Str → Bool} {n' : Nat} (R : SetS w h a S n) (e : ∀ k, S' k = S k) (en : n' = n) : SetS w h a S' n' := by
  rw [show S' = S from funext e, en]; exact R
theorem goodT_elems {l : List (Int × Value)} (g : ∀ e ∈ l, GoodT w e) : ElemsOf (PySem.strKind P w) l := fun e he => let ⟨k, tk, h1, h2⟩ := g e he; ⟨⟨k, by rw [h1]; exact strKind_is P w k tk, h2⟩, by rw [h1] <;> rfl⟩
theorem goodT_is {e : Int × Value} (g : GoodT w e) (k : Str) : (PySem.strKind P w).is k e.2 = true ↔ keyT e = k := by
  obtain ⟨k0, tk, h1, _⟩ := g; unfold keyT; rw [h1]
  refine ⟨fun z => ?_, fun z => by have z : k0 = k := z; subst z; exact strKind_is P w k0 tk⟩
  obtain ⟨t, e⟩ := Value.isStrOf_shape (x := k) (v := .str k0 tk) z; exact (Value.str.inj e).1
theorem goodT_mem {l : List (Int × Value)} (g : ∀ e ∈ l, GoodT w e) (k : Str) : k ∈ l.map keyT ↔ ∃ e ∈ l, (PySem.strKind P w).is k e.2 = true := by
  rw [List.mem_map]; exact ⟨fun ⟨e, he, q⟩ => ⟨e, he, (goodT_is (g e he) k).2 q⟩, fun ⟨e, he, q⟩ => ⟨e, he, (goodT_is (g e he) k).1 q⟩⟩
end
section
variable {P : Program} {w : World} {A : Around} {E : Value → Shared → Prop} {s : Shared} {a : Addr} {S : Str → Bool} {n : Nat}
theorem setS_tail {g : Bool → Sem Unit} (hg : ∀ (b : Bool) (s₁ : Shared) (Q' : Unit → Shared → Prop), Q' () s₁ → wpAny (model P w) A (g b) Q' E s₁) {o : Obj} {es : Array (Int × Value)} {ep : Nat} {t : SetTable} (ho : s.heap.get? a = some o) (hex : o.ExactSet) (hd : o.data = .set es ep t)
    {es1 : Array (Int × Value)} {t2 : SetTable} {S' : Str → Bool} (g1 : ∀ e ∈ es1.toList, GoodT w e) (nd1 : (es1.toList.map keyT).Nodup) (m1 : ∀ k, S' k = true ↔ k ∈ es1.toList.map keyT) (hb1 : es1.size < scanBound) (hf2 : t2.fits es1.size = true) (hr : Ris t2.place.toList)
    (hl : w.params.followText "set-order" = true ∨ t2.led = true) {wasDummy : Bool} {R : Option Bool → Shared → Prop} (hR : ∀ h', Heap.SameBut a s.heap h' → SetS w h' a S' es1.size → R (some true) { s with heap := h' }) :
    wpAny (model P w) A (do
        storeSet a es1 t2
        if (!wasDummy && t2.tooFull) = true then do
            g (relayAll t2 es1 (SetTable.grown es1.size)).2.2
            storeSet a (relayAll t2 es1 (SetTable.grown es1.size)).1 (relayAll t2 es1 (SetTable.grown es1.size)).2.1
            pure (some true)
          else pure (some true)) R E s := by
  refine wpAny_bind (wpAny_storeSet_of ho hd ?_ (fits_of_scanBound hb1))
  have sb1 := Heap.SameBut.update s.heap a (Obj.putSet es1 t2); have ho1 := store_at (es' := es1) (t' := t2) ho hd
  split
  · have pm := relayAll_perm t2 es1 (SetTable.grown es1.size); have hf3 := relayAll_fits t2 es1 (SetTable.grown es1.size)
    have hr3 := relayAll_ris t2 es1 (SetTable.grown es1.size); have hl3 := relayAll_led t2 es1 (SetTable.grown es1.size)
    generalize relayAll t2 es1 (SetTable.grown es1.size) = Z at pm hf3 hr3 hl3 ⊢
    obtain ⟨es2, t3, gave⟩ := Z; dsimp only at pm hf3 hr3 hl3 ⊢
    have hsz : es2.size = es1.size := (by rw [← Array.length_toList, pm.length_eq, Array.length_toList])
    refine wpAny_bind (hg _ _ _ (wpAny_bind (wpAny_storeSet_of ho1 rfl ?_ (fits_of_scanBound (hsz ▸ hb1)))))
    exact wpAny_pure (hR _ (sb1.trans (Heap.SameBut.update _ a _)) ⟨_, es2, _, t3, store_at (es' := es2) (t' := t3) ho1 rfl, hex, rfl, fun e he => g1 e (pm.mem_iff.mp he), (pm.map keyT).nodup_iff.mpr nd1, fun k => (m1 k).trans (pm.map keyT).mem_iff.symm, hsz ▸ hb1, hf3, hsz, hr3, hl.imp id fun z => hl3.trans z⟩)
  · exact wpAny_pure (hR _ sb1 ⟨_, es1, _, t2, ho1, hex, rfl, g1, nd1, m1, hb1, hf2, rfl, hr, hl⟩)
theorem setS_add {k : Str} {tk : Tok} {Q : Bool → Shared → Prop} (R : SetS w s.heap a S n) (room : n + 1 < scanBound)
    (hQ : ∀ h', Heap.SameBut a s.heap h' → SetS w h' a (fun j => S j || decide (j = k)) (if S k = true then n else n + 1) → Q (!S k) { s with heap := h' }) : wpAny (model P w) A (setAddHashed a (.str k tk) ((PySem.strKind P w).hash k)) Q E s := by
  obtain ⟨o, es, ep, t, ho, hex, hd, g, nd, hm, hb, hf, hn, hr, hl⟩ := R
  have hkey : (PySem.strKind P w).is k (.str k tk) = true := strKind_is P w k tk
  have hsc : (Value.str k tk).scannable = true := rfl
  have hel : ElemsOf (PySem.strKind P w) es.toList := goodT_elems g
  unfold setAddHashed setAddHashedIn; refine wpAny_holding (wpAny_bind (wpAny_setState_of ho hd hf ?_)); dsimp only
  rw [byScan_of hsc hb hel]; simp only [↓reduceIte]; unfold setAddByScan
  refine wpAny_bind (wpAny_bind (wpAny_rule (wpAny_bind (wpAny_setScan_of hkey ho hd hf hel ?_))))
  cases hfi : List.findIdx? (fun e => (PySem.strKind P w).is k e.2) es.toList with
  | some j =>
    dsimp only; obtain ⟨hj, pj, _⟩ := List.findIdx?_eq_some_iff_getElem.mp hfi
    have hSk : S k = true := (hm k).2 ((goodT_mem (P := P) g k).2 ⟨es.toList[j], List.getElem_mem hj, pj⟩)
    have q := hQ s.heap (Heap.SameBut.refl a s.heap) ⟨o, es, ep, t, ho, hex, hd, g, nd, (fun i => by rw [Bool.or_eq_true, decide_eq_true_eq, ← hm i]; exact ⟨fun z => z.elim id fun e => e ▸ hSk, .inl⟩), hb, hf, by rw [if_pos hSk]; exact hn, hr, hl⟩
    rw [hSk] at q; exact wpAny_pure (wpAny_pure q)
  | none =>
    dsimp only
    have hnk : k ∉ es.toList.map keyT := fun z => by
      obtain ⟨e, he, q⟩ := (goodT_mem (P := P) g k).1 z
      have c := List.findIdx?_eq_none_iff.mp hfi e he; rw [q] at c; cases c
    have hSk : S k = false := Bool.eq_false_iff.mpr fun q => hnk ((hm k).1 q)
    have hgw : ∀ (b : Bool) {s₁ : Shared} {Q' : Unit → Shared → Prop}, Q' () s₁ → wpAny (model P w) A (match b with | true => rule "set.scan.the-table-gave-way" | false => pure ()) Q' E s₁ := fun b s₁ Q' q => by cases b <;> first | exact wpAny_pure q | exact wpAny_rule q
    have pm := layNew_perm t es ((PySem.strKind P w).hash k) (.str k tk); have hf1 := layNew_fits t es ((PySem.strKind P w).hash k) (.str k tk)
    have hr1 := layNew_ris t es ((PySem.strKind P w).hash k) (.str k tk) hr; have hl1 := layNew_led t es ((PySem.strKind P w).hash k) (.str k tk)
    generalize layNew t es ((PySem.strKind P w).hash k) (.str k tk) = Z at pm hf1 hr1 hl1 ⊢
    obtain ⟨es1, t1, wasDummy, gave⟩ := Z; dsimp only at pm hf1 hr1 hl1 ⊢; rw [Array.toList_push] at pm
    have pc : es1.toList.Perm (((PySem.strKind P w).hash k, Value.str k tk) :: es.toList) := pm.trans (List.perm_append_singleton _ _)
    have pk : (es1.toList.map keyT).Perm (k :: es.toList.map keyT) := pc.map keyT
    have g1 : ∀ e ∈ es1.toList, GoodT w e := fun e he => (List.mem_cons.mp (pc.mem_iff.mp he)).elim (fun z => z ▸ ⟨k, tk, rfl, rfl⟩) (g e)
    have nd1 : (es1.toList.map keyT).Nodup := pk.nodup_iff.mpr (List.nodup_cons.mpr ⟨hnk, nd⟩)
    have m1 : ∀ i, (S i || decide (i = k)) = true ↔ i ∈ es1.toList.map keyT := fun i => (by rw [Bool.or_eq_true, decide_eq_true_eq, hm i, pk.mem_iff, List.mem_cons]; exact Or.comm)
    have hsz : es1.size = n + 1 := (by rw [← Array.length_toList, pc.length_eq, List.length_cons, Array.length_toList, hn])
    have hb1 : es1.size < scanBound := hsz ▸ room
    have hled : w.params.followText "set-order" = true ∨ t1.led = true := hl.imp id fun z => hl1.trans z
    have fin : ∀ h', Heap.SameBut a s.heap h' → SetS w h' a (fun j => S j || decide (j = k)) es1.size → Q true { s with heap := h' } := fun h' sb r => by
      have q := hQ h' sb; rw [hSk] at q; rw [hsz] at r; exact q r
    refine wpAny_bind (hgw _ ?_)
    split
    · refine wpAny_bind ?_; rw [hashByValue_scannable 8 hsc]; refine wpAny_pure (setS_tail ?_ ho hex hd g1 nd1 m1 hb1 ?_ ?_ ?_ ?_)
      · intro b s₁ Q' q; cases b <;> first | exact wpAny_pure q | exact wpAny_rule q
      · first | (split <;> first | exact hf1 | exact SetTable.fits_plain_off hf1) | exact hf1
      · first | (split <;> exact hr1) | exact hr1
      · first | (split <;> exact hled) | exact hled
      · exact fun h' sb r => wpAny_pure (fin h' sb r)
    · refine wpAny_bind (wpAny_pure ?_); simp only [↓reduceIte]; refine setS_tail ?_ ho hex hd g1 nd1 m1 hb1 hf1 hr1 hled ?_
      · intro b s₁ Q' q; cases b <;> first | exact wpAny_pure q | exact wpAny_rule q
      · exact fun h' sb r => wpAny_pure (fin h' sb r)
end
end Dt

set_option Elab.async false
set_option linter.all false
set_option maxRecDepth 100000
set_option maxHeartbeats 4000000
/-! sorted(set(a)), a a list of texts. -/
namespace Dt
open PySem PySem.Spec PyProof.Rows L2
abbrev SeenS (w : World) (S : Addr) (xs : List Str) (i : Nat) (h : Heap) : Prop := SetS w h S (seen xs i) (kinds (xs.take i)).length
section
variable {prog : Program} {w : World} {A : Around} {R : Result → Shared → Prop} {I : Addr} {fp wr : List Addr} {G : Array GenState → Array GenState → Prop} {n : Nat} {P : Nat → Value → Prop} {St : Nat → Shared → Prop}
theorem loop_textsS (W : WalksS prog w A.in1 I fp wr G n P St) (S : Addr) (away : S ∉ fp) (xs : List Str) (len : xs.length = n) (room : n + 1 < scanBound) (val : ∀ i v, P i v → ∃ t, v = .str (xs.getD i Str.empty) t)
    : ∀ (k i : Nat) (s : Shared), n - i = k → i ≤ n → St i s → SeenS w S xs i s.heap →
      (∀ t, Moved (S :: wr) G s t → SeenS w S xs n t.heap → R (.ok (.ret .none)) t) → codeAny (model prog w) A (.builtin "set.update.loop" ⟨[.ref S, .ref I], []⟩) R s := by
  have notW : S ∉ wr := fun q => away (W.sub _ q)
  have wide : ∀ b ∈ wr, b ∈ S :: wr := fun b q => .tail _ q
  have keep : ∀ {i : Nat} {s t : Shared}, Moved wr G s t → SeenS w S xs i s.heap → SeenS w S xs i t.heap := fun m r => SetS.at_ r fun o ho => m.heap S _ notW ho
  intro k
  induction k with
  | zero =>
    intro i s hk le st hS fin
    obtain rfl : i = n := by omega
    refine codeAny_builtin F.entry_set_update_loop (by rw [Around.under_plainId F.plain_set_update_loop _]; exact (show wpAny _ A.in1 (pyNext (.ref I) >>= _) _ _ s from wpAny_bind (W.done s _ _ st fun t m => (show wpAny _ A.in1 (ret Value.none) _ _ t from wpAny_pure (fin t (m.mono wide) (keep m hS))))))
  | succ k ih =>
    intro i s hk le st hS fin
    have lt : i < n := by omega
    refine codeAny_builtin F.entry_set_update_loop ?_; rw [Around.under_plainId F.plain_set_update_loop _]
    refine (show wpAny _ A.in1 (pyNext (.ref I) >>= _) _ _ s from wpAny_bind (W.item i s _ _ lt st fun v t hv st' m => ?_))
    obtain ⟨tk, rfl⟩ := val i v hv
    have hS' := keep m hS
    refine (show wpAny _ A.in1 (holding [Value.str (xs.getD i Str.empty) tk] (setAdd S (.str (xs.getD i Str.empty) tk)) >>= _) _ _ t from wpAny_bind (wpAny_holding ?_))
    unfold setAdd
    have space : (kinds (xs.take i)).length + 1 < scanBound := by have := kinds_len (xs.take i); rw [List.length_take] at this; omega
    refine wpAny_holding (wpAny_bind ((PySem.strKind prog w).pyHash (k := xs.getD i Str.empty) (strKind_is _ _ _ _) ?_))
    refine setS_add (P := prog) (s := { t with toks := t.toks + 1 }) hS' space fun h1 only hS2 => ?_
    have hS3 : SeenS w S xs (i + 1) h1 := hS2.congr (fun y => by
      unfold seen
      rw [take_snoc (by omega), kinds_snoc, Bool.eq_iff_iff, Bool.or_eq_true, decide_eq_true_iff, decide_eq_true_iff, decide_eq_true_iff, mem_kindS]) (by
      rw [take_snoc (by omega), kinds_snoc, len_kindS]
      simp [seen])
    have rest : ∀ b, b ≠ S → ∀ o, t.heap.get? b = some o → h1.get? b = some o := fun b q o e => by rw [only.2 b q]; exact e
    exact wpAny_pure ⟨plainId_quiet F.plain_set_update_loop _, ih (i + 1) _ (by omega) lt (W.frame _ t _ _ st' (Nat.le_succ _) fun b q o e => rest b (fun x => away (x ▸ q)) o e) hS3 fun u m2 hS4 =>
      fin u (Moved.trans W.gtrans ((m.mono wide).then_heap (Nat.le_succ _) fun b o q e => rest b (fun x => q (x ▸ .head _)) o e) m2) hS4⟩
end
section
variable {prog : Program} {w : World} {A : Around} {E : Value → Shared → Prop} {s : Shared}
theorem fresh_setS {h : Heap} {a : Addr} {xs : List Str} (ho : h.get? a = some (bare (!w.params.followText "set-order"))) : SeenS w a xs 0 h :=
  ⟨_, #[], 0, _, ho, ⟨rfl, rfl, rfl⟩, rfl, (fun e he => by simp at he), (by simp), (fun k => by simp [seen, kinds]), (by decide), (by rfl), (by simp [kinds]), List.Pairwise.nil, by
    show _ ∨ (!w.params.followText "set-order") = true
    cases w.params.followText "set-order" <;> simp⟩
theorem call_set_textsS {l : Addr} {items : Array Value} {xs : List Str} {Q : Value → Shared → Prop} (hh : A.handled = none) (hl : s.heap.IsList l items) (txt : StrsAre items.toList xs) (len : xs.length = items.size) (room : items.size + 1 < scanBound)
    (fin : ∀ (h1 : Heap) (tk : Nat), SeenS w s.heap.objs.size xs items.size h1 → (∀ b o, b < s.heap.objs.size → s.heap.get? b = some o → h1.get? b = some o) → Q (.ref s.heap.objs.size) { s with heap := h1, toks := tk }) :
    wpAny (model prog w) A (call (.type "set") [.ref l]) Q E s := by
  obtain ⟨c, tl, mro⟩ := F.called_set.mro
  have k1 := F.called_set.made; have k2 := F.called_set.sub
  refine wpAny_call (codeAny_of_tree (show wpAny _ _ (callAny (.type "set") _) _ _ _ from wpAny_pure ⟨Code.quiet_builtin _ (by decide +kernel), codeAny_builtin F.entry_type_call ?_⟩))
  have k0 := Around.under_plain (A := A) (weight_type_call_type "set" [.ref l] []) rfl; rw [k0]
  have k3 := F.called_set.notType; have k4 := F.called_set.canCreate; have k5 := F.typeCall_set_1 (.ref l)
  repeat any_goals first | assumption | wp_step
  refine codeAny_mono (code_set_led1 (.ref l) (E := E) (Q₁ := fun v t => v = .ref s.heap.objs.size ∧ t = { s with heap := s.heap.push (bare (!w.params.followText "set-order")) }) ⟨rfl, rfl⟩) fun r t hr => ?_
  match r, hr with
  | .error e, hr => exact hr
  | .ok (.ret v), hr =>
    obtain ⟨rfl, rfl⟩ := hr
    generalize hled : (!w.params.followText "set-order") = led
    have at1 : (s.heap.push (bare led)).get? s.heap.objs.size = some (bare led) := Heap.get?_push_size _ rfl
    have ty : Shared.TypeIs { s with heap := s.heap.push (bare led) } (.ref s.heap.objs.size) "set" := ⟨_, at1, rfl⟩
    have k6 := F.called_set.init.lookup; have k7 := F.called_set.init.bind (.ref s.heap.objs.size)
    repeat any_goals first | assumption | wp_step
    refine codeAny_mono (codeAny_call_builtin (R := wants (fun r t => r = .none ∧ ∃ h1 tk, t = { s with heap := h1, toks := tk } ∧ SeenS w s.heap.objs.size xs items.size h1 ∧ (∀ b o, b < s.heap.objs.size → s.heap.get? b = some o → h1.get? b = some o)) E) F.called_set.init.plain F.entry_set_init (check_set_init_1 ty ?_)) fun r t hr => ?_
    · obtain ⟨⟨ocls, odict, odata, oslots⟩, at2, c2, nl, d2⟩ := hl
      obtain rfl : ocls = _ := c2
      obtain rfl : odata = _ := d2
      have is1 : s.heap.IsList l items := ⟨_, at2, rfl, nl, rfl⟩
      have at3 := Heap.get?_push_of_some (bare led) at2
      have is2 : (s.heap.push (bare led)).IsList l items := ⟨_, at3, rfl, nl, rfl⟩
      have k8 := F.sub_list_set; have k9 := F.sub_list_frozenset
      have kA : (Value.type "list" == Value.type "dict") = false := by decide
      unfold Builtin.«set.__init__» noKeywords Builtin.Frozenset.updateFrom
      generalize hPI : pyIter = PI
      wp_walk
      subst hPI
      refine wpAny_pyIter_list is2 (wpAny_bind (wpAny_runValue ?_))
      have lt : l < s.heap.objs.size := Heap.lt_size at2
      have sz : (s.heap.push (bare led)).objs.size = s.heap.objs.size + 1 := Heap.size_push _ _
      have q1 : A.in1.in1.in1.handled = none := by simp [hh]
      have q2 : l ≠ (s.heap.push (bare led)).objs.size := by rw [sz]; exact Nat.ne_of_lt (Nat.lt_succ_of_lt lt)
      have q3 : s.heap.objs.size ∉ [(s.heap.push (bare led)).objs.size, l] := fun h => by
        rcases List.mem_cons.mp h with e | h
        · rw [sz] at e; exact Nat.ne_of_lt (Nat.lt_succ_self _) e
        · rw [← List.mem_singleton.mp h] at lt; exact Nat.lt_irrefl _ lt
      have at4 : ((s.heap.push (bare led)).push (walker l)).get? s.heap.objs.size = some (bare led) := Heap.get?_push_of_some _ at1
      refine loop_textsS ((Walks.list q1 _ l q2 items).toS) s.heap.objs.size q3 xs len room (fun i v hv => SS.strs_at txt i v (by rw [Array.getElem?_toList]; exact hv)) (items.size - 0) 0 _ (by omega) (Nat.zero_le _) ⟨⟨_, Heap.get?_push_size _ rfl, rfl, rfl⟩, is2.push _⟩ ?_ ?_
      · exact fresh_setS (by rw [hled]; exact at4)
      · intro ⟨h1, g1, d1, t1, o1⟩ m hS
        obtain rfl : g1 = s.gens := m.gens
        obtain rfl : d1 = s.drawn := m.drawn
        obtain rfl : o1 = s.os := m.os
        refine (show wpAny _ _ _ _ _ _ from wpAny_pure (show wpAny _ _ (ret Value.none) _ _ _ from wpAny_pure ⟨rfl, h1, t1, rfl, hS, fun b o hb e => ?_⟩))
        refine m.heap b o (fun h => ?_) (Heap.get?_push_of_some _ (Heap.get?_push_of_some _ e))
        rcases List.mem_cons.mp h with q | q
        · exact Nat.ne_of_lt hb q
        · rw [List.mem_singleton.mp q, sz] at hb; exact Nat.lt_irrefl _ (Nat.lt_of_succ_lt hb)
    · match r, hr with
      | .error e, hr => exact hr
      | .ok (.ret v), hr =>
        obtain ⟨rfl, h1, tk, rfl, hS, old⟩ := hr
        repeat any_goals first | assumption | wp_step
        exact fin _ _ hS old
theorem strs_goodT : ∀ (l : List (Int × Value)), (∀ e ∈ l, GoodT w e) → StrsAre (l.map (·.2)) (l.map keyT)
  | [], _ => .nil
  | e :: l, g => by
    obtain ⟨x, tk, h1, _⟩ := g e (.head _)
    have ek : keyT e = x := by unfold keyT; rw [h1]
    rw [List.map_cons, List.map_cons, h1, ek]
    exact .cons x tk (strs_goodT l fun e he => g e (.tail _ he))
end
end Dt

set_option Elab.async false
set_option linter.all false
set_option maxRecDepth 100000
set_option maxHeartbeats 4000000
/-! sorted(set(a)), a a list of texts: as a value. -/
namespace Dt
open PySem PySem.Spec PyProof.Rows L2
/-- one more text in a rising list -/
def insU (x : Str) : List Str → List Str
  | [] => [x]
  | y :: r => if sLt x y = true then x :: y :: r else if x = y then y :: r else y :: insU x r
/-- the unlike texts, ascending -/
def riseOf (xs : List Str) : List Str := xs.foldl (fun l x => insU x l) []
theorem mem_insU {x z : Str} : ∀ {l : List Str}, z ∈ insU x l ↔ z = x ∨ z ∈ l
  | [] => by simp [insU]
  | y :: r => by
    unfold insU
    split
    · exact List.mem_cons
    · split
      · rename_i e; subst e; rw [List.mem_cons]; exact ⟨.inr, fun h => h.elim .inl id⟩
      · rw [List.mem_cons, List.mem_cons, mem_insU (l := r)]
        exact ⟨fun h => h.elim (fun h => .inr (.inl h)) fun h => h.elim .inl fun h => .inr (.inr h), fun h => h.elim (fun h => .inr (.inl h)) fun h => h.elim .inl fun h => .inr (.inr h)⟩
theorem str_eq {a b : Str} (h1 : ¬ a.cps.toList < b.cps.toList) (h2 : ¬ b.cps.toList < a.cps.toList) : a = b := by
  have h : a.cps.toList = b.cps.toList := List.le_antisymm (List.not_lt.mp h2) (List.not_lt.mp h1)
  cases a; cases b; simp only at h; congr 1; exact Array.toList_inj.mp h
theorem rises_cons {x : Str} {l : List Str} (hl : rises l = true) (h : ∀ y ∈ l, x.cps.toList < y.cps.toList) : rises (x :: l) = true := by
  cases l with
  | nil => rfl
  | cons y r => unfold rises; rw [Bool.and_eq_true]; exact ⟨decide_eq_true (h y (.head _)), hl⟩
theorem rises_tail {x : Str} {l : List Str} (h : rises (x :: l) = true) : rises l = true := by
  cases l with
  | nil => rfl
  | cons y r => unfold rises at h; rw [Bool.and_eq_true] at h; exact h.2
theorem rises_insU {x : Str} : ∀ {l : List Str}, rises l = true → rises (insU x l) = true
  | [], _ => rfl
  | y :: r, h => by
    unfold insU
    split
    · rename_i c
      have c : x.cps.toList < y.cps.toList := of_decide_eq_true c
      exact rises_cons h fun z hz => (List.mem_cons.mp hz).elim (fun e => e ▸ c) fun hz => List.lt_trans c (rises_all h z hz)
    · split
      · exact h
      · rename_i c ne
        have c : ¬ x.cps.toList < y.cps.toList := fun z => c (decide_eq_true z)
        have c2 : y.cps.toList < x.cps.toList := Classical.byContradiction fun z => ne (str_eq c z)
        exact rises_cons (rises_insU (rises_tail h)) fun z hz => (mem_insU.mp hz).elim (fun e => e ▸ c2) fun hz => rises_all h z hz
theorem riseOf_go : ∀ (xs l : List Str), rises l = true → rises (xs.foldl (fun l x => insU x l) l) = true ∧ ∀ z, z ∈ xs.foldl (fun l x => insU x l) l ↔ z ∈ xs ∨ z ∈ l
  | [], l, h => ⟨h, fun z => by simp⟩
  | x :: xs, l, h => by
    obtain ⟨h1, h2⟩ := riseOf_go xs (insU x l) (rises_insU h)
    refine ⟨h1, fun z => (h2 z).trans ?_⟩
    rw [mem_insU, List.mem_cons]
    exact ⟨fun h => h.elim (fun h => .inl (.inr h)) fun h => h.elim (fun h => .inl (.inl h)) .inr, fun h => h.elim (fun h => h.elim (fun h => .inr (.inl h)) .inl) fun h => .inr (.inr h)⟩
theorem rises_riseOf (xs : List Str) : rises (riseOf xs) = true := (riseOf_go xs [] rfl).1
theorem mem_riseOf {xs : List Str} {z : Str} : z ∈ riseOf xs ↔ z ∈ xs := ((riseOf_go xs [] rfl).2 z).trans (by simp)
theorem rises_nodup : ∀ {l : List Str}, rises l = true → l.Nodup
  | [], _ => .nil
  | x :: l, h => List.nodup_cons.mpr ⟨fun hx => List.lt_irrefl _ (rises_all h x hx), rises_nodup (rises_tail h)⟩
theorem mem_kinds_go : ∀ (xs σ : List Str) (z : Str), z ∈ xs.foldl kindS σ ↔ z ∈ σ ∨ z ∈ xs
  | [], σ, z => by simp
  | x :: xs, σ, z => by
    rw [List.foldl_cons, mem_kinds_go xs, mem_kindS, List.mem_cons]
    exact ⟨fun h => h.elim (fun h => h.elim .inl fun h => .inr (.inl h)) fun h => .inr (.inr h), fun h => h.elim (fun h => .inl (.inl h)) fun h => h.elim (fun h => .inl (.inr h)) .inr⟩
section
variable {P : Program} {w : World} {A : Around} {E : Value → Shared → Prop} {s : Shared} {a : Addr} {S : Str → Bool} {n : Nat}
theorem sorted_setS {Q : Value → Shared → Prop} (R : SetS w s.heap a S n) (hh : A.handled = none) (h64 : n < 64)
    (hQ : ∀ s' p (out : Array Value) (c : Nat) (ys zs : List Str), (∀ b o, s.heap.get? b = some o → s'.heap.get? b = some o) → s'.gens = s.gens → s'.os = s.os → s.heap.objs.size ≤ p → s'.heap.get? p = some (seqObj "list" out c) → StrsAre out.toList ys → sortedS ys = true → ys.Perm zs → zs.Nodup → (∀ k, k ∈ zs ↔ S k = true) → ys.length = n → Q (.ref p) s') :
    wpAny (model P w) A (call (.builtin "sorted") [.ref a]) Q E s := by
  obtain ⟨o, es, ep, t, ho, hex, hd, g, nd, hm, hb, hf, hn, hr, hl⟩ := R
  refine Calls.call_function_entry kind_sorted plain_sorted entry_sorted (args_sorted1 _) ?_; unfold Builtin.«sorted»
  refine wpAny_bind (m := checkCount "sorted" 1 1 _) (wpAny_pure (wpAny_bind (collect_set (A := A.in1) hh ⟨o, ho, hex.1, hd⟩ hf hb hr hl fun s1 vs k1 hz g1 o1 pm => ?_)))
  have hvl : vs.length = n := by rw [pm.length_eq, List.length_map, Array.length_toList]; exact hn
  have hI : StrsAre vs (vs.map fun v => keyT (0, v)) := by
    have all : ∀ v ∈ vs, ∃ x tk, v = Value.str x tk := fun v hv => by
      obtain ⟨e, he, q⟩ := List.mem_map.mp (pm.mem_iff.mp hv)
      obtain ⟨k, tk, h1, _⟩ := g e he
      exact ⟨k, tk, by rw [← q]; exact h1⟩
    clear pm hvl
    induction vs with
    | nil => exact .nil
    | cons v vs ih =>
      obtain ⟨x, tk, rfl⟩ := all v (.head _)
      exact .cons x tk (ih fun v hv => all v (.tail _ hv))
  have pk : (vs.map fun v => keyT (0, v)).Perm (es.toList.map keyT) := by
    have q := pm.map fun v => keyT (0, v)
    rw [List.map_map] at q; exact q
  refine wpAny_bind (wpAny_newList ?_ (by rw [hvl, sizeLine_eq]; omega))
  have hoL : (s1.heap.push (seqObj "list" vs.toArray 0)).get? s1.heap.objs.size = some (seqObj "list" vs.toArray 0) := Heap.get?_push_size _ rfl
  refine wpAny_bind (wpAny_holding (wpAny_call_entry slot_list_sort ⟨_, hoL, rfl⟩ entry_list_sort (list_sort_treeK strKind_oneLt (s := { s1 with heap := s1.heap.push (seqObj "list" vs.toArray 0) }) hoL hI.keysOf (fun v₁ v₂ rest e => keyKind_strs (by rw [← e]; exact hI)) (by rw [hvl]; exact h64) fun st' hp hs => ⟨_, rfl, ?_⟩) (args_list_sort _)))
  obtain ⟨ys, a1, a2, a3⟩ := sorted_out_str hI hp hs
  obtain ⟨c, hc⟩ := sortedHeap_at (vs := vs) (out := (arrOf st').map (·.2)) hoL
  refine wpAny_pure ⟨_, rfl, hQ _ s1.heap.objs.size _ c ys _ (fun b u e => ?_) g1 o1 hz hc a1 a3 (a2.trans pk) nd (fun k => (hm k).symm) (by rw [(a2.trans pk).length_eq, List.length_map, Array.length_toList]; exact hn)⟩
  have q := k1 b u e
  have hlt := Heap.lt_size q
  show (sortedHeap (s1.heap.push (seqObj "list" vs.toArray 0)) s1.heap.objs.size vs _).get? b = some u
  rw [sortedHeap_old (Nat.ne_of_lt hlt) (by rw [size_push']; exact Nat.lt_succ_of_lt hlt)]; exact Heap.get?_push_of_some _ q
end
section
variable {X : Cx} {W : WX} {ex : Exx} {p p2 q pos : Pos}
def tSortTx (K : PySem.W.Frag) (ta : TE) : TE := fun σ H Q => ta σ H fun x H1 => ∃ (l : Addr) (xs : List Str), x = V.ref l ∧ SqL K H1 l (xs.map V.str) ∧ xs.length < 64 ∧ ∀ p, H1 p = none → Q (.ref p) (upd H1 p (.lst ((riseOf xs).map V.str)))
theorem pe_sortTx {a : Expr} {ta : TE} (calm : X.calm = true) (g1 : Gl X "sorted") (m1 : X.mg "sorted" = none) (g2 : Gl X "set") (m2 : X.mg "set" = none) (ha : PE X a ta) (ns : starEach [a] X.env = (false, eval a X.env) :: starEach [] X.env := by rfl) :
    PE X (.Call (.Name "sorted" p) [.Call (.Name "set" p2) [a] [] q] [] pos) (tSortTx X.K ta) := by
  constructor; intro pins s σ H Q I h
  refine Call_ (ld_blt I g1 m1 boot_sorted (callWith_builtin1 (args_cons (Call_ (ld_blt I g2 m2 boot_set (callWith_type1 (args_cons (thn (ha.run pins s σ H _ I h) fun v t ⟨x, H1, I1, r1, l, xs, e1, hq, room, q1⟩ => args_nil ?_) ns) ns rfl))) rfl) rfl rfl))
  subst e1; cases r1
  obtain ⟨its, r, pl, hz⟩ := I1.list hq
  have sz : xs.length = its.toArray.size := by rw [List.size_toArray, ← r.length, List.length_map]
  have hr2 : xs.length + 1 < scanBound := Nat.lt_of_lt_of_le (Nat.add_lt_add_right room 1) (by unfold scanBound; omega)
  refine call_set_textsS (I1.ok.hd calm) pl.isList (by simpa using strsAre_of r) sz (by rw [← sz]; exact hr2) fun h1 tk hS old => args_nil ?_
  have small := kinds_len (xs.take its.toArray.size)
  have I2 : Inv X pins σ H1 { t with heap := h1, toks := tk } := I1.kept fun b o e => old b o (Heap.lt_size e) e
  refine sorted_setS (s := { t with heap := h1, toks := tk }) hS (I1.ok.hd calm) (by rw [← sz, List.take_length] at small ⊢; omega) fun s' pp out c ys zs k g o hp hg hi hs pz nz hm hl => ?_
  have ey : ys = riseOf xs := by
    refine sorted_same (pz.trans ((List.perm_ext_iff_of_nodup nz (rises_nodup (rises_riseOf xs))).mpr fun z => ?_)) hs (rises_riseOf xs)
    rw [hm z, mem_riseOf]
    unfold seen
    rw [decide_eq_true_iff, ← sz, List.take_length]
    unfold kinds
    rw [mem_kinds_go]; simp
  subst ey
  have hlen : ((riseOf xs).map V.str).length ≤ sizeLine := by rw [List.length_map, hl, sizeLine_eq]; rw [← sz, List.take_length] at small ⊢; omega
  have hn : H1 pp = none := I2.hok.fresh hp
  have J : Inv X pins σ (upd H1 pp (.lst ((riseOf xs).map V.str))) { t with heap := s'.heap, gens := s'.gens, drawn := s'.drawn, toks := s'.toks } :=
    Inv.call (s := { t with heap := h1, toks := tk }) (ch := []) I2 (Un.laid (h := h1) k hp hn) (I2.hok.laid k hp ⟨hlen, out.toList, c, vals_of_strs hi, hg⟩) (by rw [g]; exact I2.bare) (fun _ z => nomatch z)
  have e : s' = { t with heap := s'.heap, gens := s'.gens, drawn := s'.drawn, toks := s'.toks } := by cases s'; cases t; cases o; rfl
  rw [e]
  exact ⟨.ref pp, _, J, rfl, q1 pp hn⟩
def sortSetD : D → Option D
  | .lst ds => (strsOf ds).bind fun xs => if xs.length < 64 then some (.lst ((riseOf xs).map D.str)) else none
  | _ => none
def sSortSet (s : SE) : SE := fun ρ => (s ρ).bind fun d ρ' => ofO (sortSetD d) ρ'
@[simp] theorem ev_sortSet (s : SE) (ρ : Env) : sSortSet s ρ = (s ρ).bind fun d ρ' => ofO (sortSetD d) ρ' := rfl
theorem rps_strs {K : PySem.W.Frag} {F : Hp} : ∀ (zs : List Str), Rps K F (zs.map V.str) (zs.map D.str)
  | [] => .nil
  | z :: zs => .cons (.str z) (rps_strs zs)
theorem d_sortSetF {a : Expr} {sa : SE} (calm : X.calm = true) (g1 : Gl X "sorted") (m1 : X.mg "sorted" = none) (g2 : Gl X "set") (m2 : X.mg "set" = none) (ha : DE (GK X ex) X W a sa) (ns : starEach [a] X.env = (false, eval a X.env) :: starEach [] X.env := by rfl) :
    DF (GK X ex) X W (.Call (.Name "sorted" p) [.Call (.Name "set" p2) [a] [] q] [] pos) (sSortSet sa) := wkE (pe_sortTx calm g1 m1 g2 m2 ha ns) fun σ H Q ⟨ρ, F, Rv, io, rel, k⟩ => by
  refine ⟨ρ, F, Rv, io, rel, ?_⟩
  unfold sSortSet at k
  cases e : sa ρ with
  | stuck => rw [e] at k; exact k.elim
  | exc x ρ' => rw [e] at k; exact k
  | ok d ρ' =>
    rw [e, R.bind_ok] at k
    intro v H' F' le rel' rp
    cases rp with
    | lst t r =>
      cases e2 : strsOf _ with
      | none => rw [sortSetD, e2] at k; exact k.elim
      | some xs =>
        rw [sortSetD, e2, Option.bind_some] at k
        by_cases hc : xs.length < 64
        · rw [if_pos hc] at k
          rw [strs_vw r e2] at t
          exact ⟨_, xs, rfl, SqL.of (rel'.fH _ _ t), hc, fun pp hp => k pp _ F' le (rel'.newH hp _) ⟨rel'.fH.noneOf hp, rel'.rH.noneOf hp, _, upd_same, _, rfl, rps_strs _⟩ (rel'.loose hp)⟩
        · rw [if_neg hc] at k; exact k.elim
    | _ => exact k.elim
end
end Dt

set_option Elab.async false
set_option linter.all false
set_option maxRecDepth 100000
set_option maxHeartbeats 4000000
/-! sorted(a), a a list of unlike texts in any order. -/
namespace Dt
open PySem PySem.Spec PyProof.Rows L2
theorem rises_uniq {xs ys : List Str} (hx : rises xs = true) (hy : rises ys = true) (h : ∀ z, z ∈ xs ↔ z ∈ ys) : xs = ys := by
  refine List.Perm.eq_of_pairwise (le := fun a b => ¬ b.cps.toList < a.cps.toList) (fun a b _ _ h1 h2 => str_eq h2 h1) (rises_pair hx) (rises_pair hy) ((List.perm_ext_iff_of_nodup (rises_nodup hx) (rises_nodup hy)).mpr h)
theorem rise_ext {xs ys : List Str} (h : ∀ z, z ∈ xs ↔ z ∈ ys) : riseOf xs = riseOf ys := rises_uniq (rises_riseOf xs) (rises_riseOf ys) fun z => by rw [mem_riseOf, mem_riseOf]; exact h z
theorem rise_perm {xs : List Str} (h : xs.Nodup) : xs.Perm (riseOf xs) := (List.perm_ext_iff_of_nodup h (rises_nodup (rises_riseOf xs))).mpr fun z => by rw [mem_riseOf]
theorem rise_len {xs : List Str} (h : xs.Nodup) : (riseOf xs).length = xs.length := (rise_perm h).length_eq.symm
def gSortN : List D → Option D
  | [.lst ds] => (strsOf ds).bind fun xs => if xs.length < 64 ∧ xs.Nodup then some (.lst ((riseOf xs).map D.str)) else none
  | _ => none
theorem fsem_sortN {G : Gx} : FSem G (rSortedS G.K) gSortN := fun F H vs ds d Q fh vw e q => by
  unfold gSortN at e
  split at e
  · rename_i ds
    cases e1 : strsOf ds with
    | none => rw [e1] at e; cases e
    | some xs =>
      rw [e1, Option.bind_some] at e
      by_cases hc : xs.length < 64 ∧ xs.Nodup
      · rw [if_pos hc] at e
        cases e
        obtain ⟨v, rfl, h⟩ := vw.one
        obtain ⟨a, zs, rfl, t, r⟩ := h.lst fh
        have ez := strs_vw r e1
        refine ⟨a, xs, rfl, by rw [← ez]; exact SqL.of t, hc.1, fun ys pp hp hs hn => ?_⟩
        have ey : ys = riseOf xs := sorted_same (hp.trans (rise_perm hc.2)) hs (rises_riseOf xs)
        rw [ey]
        exact q pp _ hn ⟨_, rfl, rps_strs _⟩
      · rw [if_neg hc] at e; cases e
  · cases e
theorem strsOf_map (xs : List Str) : strsOf (xs.map D.str) = some xs := by
  induction xs with
  | nil => rfl
  | cons x xs ih => simp [strsOf, ih]
theorem gSortN_map {xs : List Str} (h : xs.length < 64) (nd : xs.Nodup) : gSortN [.lst (xs.map D.str)] = some (.lst ((riseOf xs).map D.str)) := by
  simp [gSortN, strsOf_map, h, nd]
theorem sortSet_map {xs : List Str} (h : xs.length < 64) : sortSetD (.lst (xs.map D.str)) = some (.lst ((riseOf xs).map D.str)) := by
  simp [sortSetD, strsOf_map, h]
end Dt

set_option Elab.async false
set_option linter.all false
set_option maxRecDepth 100000
set_option maxHeartbeats 4000000
/-! sorted(d), d a dict whose keys are texts. -/
namespace Dt
open PySem PySem.Spec PyProof.Rows L2
section
variable {P : Program} {w : World} {A : Around} {E : Value → Shared → Prop} {s : Shared} {T : String} {r d : Addr} {n : Nat} {PI : Nat → Value → Prop} {OK : Heap → Prop}
theorem sorted_src {Q : Value → Shared → Prop} {zs : List Str} (K : PySem.W.KdlSrc P w T r d n PI OK) (hh : A.handled = none) (hok : OK s.heap) (h64 : n < 64) (hstr : ∀ acc : Array Value, ItemsOf PI acc n → StrsAre acc.toList zs)
    (hQ : ∀ (h' : Heap) (tk : Nat) (h2 : Heap) (out : Array Value) (c : Nat) (ys : List Str), (∀ b o, s.heap.get? b = some o → h'.get? b = some o) → (∀ b o, h'.get? b = some o → h2.get? b = some o) → h2.get? h'.objs.size = some (seqObj "list" out c) → StrsAre out.toList ys → sortedS ys = true → ys.Perm zs → Q (.ref h'.objs.size) { s with heap := h2, toks := tk }) :
    wpAny (model P w) A (call (.builtin "sorted") [.ref r]) Q E s := by
  refine Calls.call_function_entry kind_sorted plain_sorted entry_sorted (args_sorted1 _) ?_; unfold Builtin.«sorted»
  refine wpAny_bind (m := checkCount "sorted" 1 1 _) (wpAny_pure (wpAny_bind (PySem.W.kdu_collect (A := A.in1) K hh hok (by rw [sizeLine_eq]; omega) fun h' tk acc k1 hz => ?_)))
  have hI := hstr acc hz
  have hvl : acc.toList.length = n := by rw [Array.length_toList]; exact hz.1
  generalize acc.toList = vs at hI hvl ⊢
  refine wpAny_bind (wpAny_newList ?_ (by rw [hvl, sizeLine_eq]; omega))
  have hoL : (h'.push (seqObj "list" vs.toArray 0)).get? h'.objs.size = some (seqObj "list" vs.toArray 0) := Heap.get?_push_size _ rfl
  refine wpAny_bind (wpAny_holding (wpAny_call_entry slot_list_sort ⟨_, hoL, rfl⟩ entry_list_sort (list_sort_treeK strKind_oneLt (s := { s with heap := h'.push (seqObj "list" vs.toArray 0), toks := tk }) hoL hI.keysOf (fun v₁ v₂ rest e => keyKind_strs (by rw [← e]; exact hI)) (by rw [hvl]; exact h64) fun st' hp hs => ⟨_, rfl, ?_⟩) (args_list_sort _)))
  obtain ⟨ys, a1, a2, a3⟩ := sorted_out_str hI hp hs
  obtain ⟨c, hc⟩ := sortedHeap_at (vs := vs) (out := (arrOf st').map (·.2)) hoL
  refine wpAny_pure ⟨_, rfl, hQ h' tk _ _ c ys k1 (fun b u q => ?_) hc a1 a3 a2⟩
  have hlt := Heap.lt_size q
  show (sortedHeap (h'.push (seqObj "list" vs.toArray 0)) h'.objs.size vs _).get? b = some u
  rw [sortedHeap_old (Nat.ne_of_lt hlt) (by rw [size_push']; exact Nat.lt_succ_of_lt hlt)]; exact Heap.get?_push_of_some _ q
end
section
variable {X : Cx}
def rSortedA (K : PySem.W.Frag) : List V → Hp → VK → Prop := fun vs H Q => rSortedS K vs H Q ∨ ∃ (a : Addr) (kvs : List (Key × V)) (zs : List Str), vs = [V.ref a] ∧ Rd H a (.dK kvs) ∧ (kvs.map fun kv => kV kv.1) = zs.map V.str ∧ zs.length < 64 ∧
  ∀ (ys : List Str) (p : Addr), ys.Perm zs → sortedS ys = true → H p = none → Q (.ref p) (upd H p (.lst (ys.map V.str)))
theorem cr_sortedA (calm : X.calm = true) : CallR X (.builtin "sorted") (rSortedA X.K) := by
  intro pins s σ H xs us Q I r h
  rcases h with h | ⟨a, kvs, zs, rfl, hd, ez, h64, q⟩
  · exact cr_sortedS pins s σ H xs us Q I r h
  obtain ⟨u, eu, rx⟩ := vals1 r
  subst eu
  cases rx
  obtain ⟨z, lo, vs, rel, dd⟩ := dk_rd I.hok hd
  obtain ⟨ep, hat⟩ := dd.dictAt
  have ek : (kvs.map fun kv => kV kv.1) = vs.map fun p => kV p.1 := by
    have e := congrArg (List.map kV) rel.keys
    rw [List.map_map, List.map_map] at e
    exact e
  have ln : vs.length = zs.length := by
    have := congrArg List.length (ek.symm.trans ez)
    rw [List.length_map, List.length_map] at this
    exact this
  refine sorted_src (PySem.W.kdl_dict (knd := mixKind X.prog X.w) (kvs := vs) (ep := ep) lo) (I.ok.hd calm) hat (by rw [ln]; exact h64) (zs := zs) (fun acc hacc => ?_) fun h' tk h2 out c ys k1 k2 hg hi hs hp => ?_
  · have hv : Vals (vs.map fun p => kV p.1) acc.toList := keys_at (by rw [Array.length_toList]; exact hacc.1) fun j v e => hacc.2 j v (by rw [← Array.getElem?_toList]; exact e)
    rw [← ek, ez] at hv
    exact hv.strs
  · have I2 : Inv X pins σ H { s with heap := h', toks := tk } := I.kept fun b o e => k1 b o e
    have hlen : (ys.map V.str).length ≤ sizeLine := by rw [List.length_map, hp.length_eq]; exact small64 h64
    exact ⟨.ref _, upd H h'.objs.size (.lst (ys.map V.str)), I2.laid (t' := tk) k2 (Nat.le_refl _) ⟨hlen, out.toList, c, vals_of_strs hi, hg⟩, rfl, q ys _ hp hs (I2.hok.fresh (Nat.le_refl _))⟩
end
def gSortA : List D → Option D
  | [.lst ds] => (strsOf ds).bind fun xs => if xs.length < 64 ∧ xs.Nodup then some (.lst ((riseOf xs).map D.str)) else none
  | [.dct ks _] => (strsOf (ks.map keyD)).bind fun xs => if xs.length < 64 ∧ xs.Nodup then some (.lst ((riseOf xs).map D.str)) else none
  | _ => none
theorem fsem_sortA {G : Gx} : FSem G (rSortedA G.K) gSortA := fun F H vs ds d Q fh vw e q => by
  unfold gSortA at e
  split at e
  · rename_i ds
    exact .inl (fsem_sortN F H vs [.lst ds] d Q fh vw e q)
  · rename_i ks vs'
    cases e1 : strsOf (ks.map keyD) with
    | none => rw [e1] at e; cases e
    | some xs =>
      rw [e1, Option.bind_some] at e
      by_cases hc : xs.length < 64 ∧ xs.Nodup
      · rw [if_pos hc] at e
        cases e
        obtain ⟨v, rfl, h⟩ := vw.one
        obtain ⟨a, kvs, rfl, rd, rfl, r⟩ := h.dct fh
        refine .inr ⟨a, kvs, xs, rfl, rd, strs_vw (K := G.K) (F := F) rps_keys e1, hc.1, fun ys pp hp hs hn => ?_⟩
        have ey : ys = riseOf xs := sorted_same (hp.trans (rise_perm hc.2)) hs (rises_riseOf xs)
        rw [ey]
        exact q pp _ hn ⟨_, rfl, rps_strs _⟩
      · rw [if_neg hc] at e; cases e
  · cases e
theorem gSortA_map {xs : List Str} (h : xs.length < 64) (nd : xs.Nodup) : gSortA [.lst (xs.map D.str)] = some (.lst ((riseOf xs).map D.str)) := by
  simp [gSortA, strsOf_map, h, nd]
theorem gSortA_dct {xs : List Str} {ds : List D} (h : xs.length < 64) (nd : xs.Nodup) : gSortA [.dct (xs.map Sum.inr) ds] = some (.lst ((riseOf xs).map D.str)) := by
  have e : (xs.map (Sum.inr (α := Int))).map keyD = xs.map D.str := by rw [List.map_map]; rfl
  simp only [gSortA, e, strsOf_map]
  simp [h, nd]
end Dt

set_option Elab.async false
set_option linter.all false
set_option maxRecDepth 100000
set_option maxHeartbeats 4000000
/-! A dict of one's own, lent to an expression that reads it: it is locked meanwhile. -/
namespace Dt
open PySem PySem.Spec PyProof.Rows L2
mutual
/-- no dict in it -/
def D.dfree : D → Bool
  | .dct _ _ => false
  | .nd _ _ => false
  | .tup ds => D.dfrees ds
  | .lst ds => D.dfrees ds
  | .arg ds => D.dfrees ds
  | _ => true
def D.dfrees : List D → Bool
  | [] => true
  | d :: ds => d.dfree && D.dfrees ds
end
def cellFree : Cell → Bool
  | .own d => d.dfree
  | .io d => d.dfree
  | _ => true
/-- the frozen things but p -/
def eraseH (F : Hp) (p : Addr) : Hp := fun a => if a = p then none else F a
theorem erase_ne {F : Hp} {p a : Addr} (h : a ≠ p) : eraseH F p a = F a := if_neg h
theorem erase_same {F : Hp} {p : Addr} : eraseH F p p = none := if_pos rfl
section
variable {K : PySem.W.Frag} {F : Hp} {p : Addr} {od : Obj} {kvs : List (Key × V)}
mutual
theorem Rp.erase (hp : F p = some (.frz od (.dK kvs))) : ∀ {v : V} {d : D}, Rp K F v d → d.dfree = true → Rp K (eraseH F p) v d
  | _, _, .non, _ => .non
  | _, _, .bl b, _ => .bl b
  | _, _, .int i, _ => .int i
  | _, _, .str s, _ => .str s
  | _, _, .tup t r, h => .tup (let ⟨o, e1, e2⟩ := t; ⟨o, e1, by rw [erase_ne (fun z => by subst z; rw [hp] at e2; cases e2)]; exact e2⟩) (Rps.erase hp r (by rw [D.dfree] at h; exact h))
  | _, _, .arg t r, h => .arg (by
      rcases t with (t | ⟨o, t⟩) | t
      · exact .inl (.inl (by rw [erase_ne (fun z => by subst z; rw [hp] at t; cases t)]; exact t))
      · exact .inl (.inr ⟨o, by rw [erase_ne (fun z => by subst z; rw [hp] at t; cases t)]; exact t⟩)
      · exact .inr t) (Rps.erase hp r (by rw [D.dfree] at h; exact h))
  | _, _, .lst t r, h => .lst (by rw [erase_ne (fun z => by subst z; rw [hp] at t; cases t)]; exact t) (Rps.erase hp r (by rw [D.dfree] at h; exact h))
  | _, _, .dct _ _, h => by rw [D.dfree] at h; cases h
  | _, _, .scr t, _ => .scr (by
      rcases t with (t | ⟨o, t⟩) | t
      · exact .inl (.inl (by rw [erase_ne (fun z => by subst z; rw [hp] at t; cases t)]; exact t))
      · exact .inl (.inr ⟨o, by rw [erase_ne (fun z => by subst z; rw [hp] at t; cases t)]; exact t⟩)
      · exact .inr t)
  | _, _, .fn nm, _ => .fn nm
  | _, _, .exn a, _ => .exn a
  | _, _, .nd _ _ _ _, h => by rw [D.dfree] at h; cases h
theorem Rps.erase (hp : F p = some (.frz od (.dK kvs))) : ∀ {vs : List V} {ds : List D}, Rps K F vs ds → D.dfrees ds = true → Rps K (eraseH F p) vs ds
  | _, _, .nil, _ => .nil
  | _, _, .cons a b, h => by
    rw [D.dfrees, Bool.and_eq_true] at h
    exact .cons (Rp.erase hp a h.1) (Rps.erase hp b h.2)
end
theorem OwnObj.erase (hp : F p = some (.frz od (.dK kvs))) {q : Addr} {o : HO} {d : D} (h : OwnObj K F q o d) (hd : d.dfree = true) : OwnObj K (eraseH F p) q o d := by
  cases d with
  | lst ds =>
    obtain ⟨xs, e, r⟩ := h
    exact ⟨xs, e, r.erase hp (by rw [D.dfree] at hd; exact hd)⟩
  | dct ks ds => rw [D.dfree] at hd; cases hd
  | nd ks ds => rw [D.dfree] at hd; cases hd
  | _ => exact h
end
open Classical in
/-- s, which reads the dict of one's own at i as data; nothing else of the environment may change -/
noncomputable def sLend (i : Nat) (s : SE) : SE := fun ρ => match (ρ[i]? : Option Cell) with
  | some (.own (.dct ks ds)) => match s (ρ.set i (.fro (.dct ks ds))) with
    | .ok v ρ' => if ρ' = ρ.set i (.fro (.dct ks ds)) ∧ v.dfree = true ∧ (ρ.set i .no).all cellFree = true then .ok v ρ else .stuck
    | _ => .stuck
  | _ => .stuck
section
variable {G : Gx} {X : Cx} {W : WX} {e : Expr} {s : SE}
theorem d_lend {i : Nat} (h : DE G X W e s) : DE G X W e (sLend i s) := wkE (pe_lock h) fun σ H Q ⟨ρ, F, Rv, io, rel, q⟩ => by
  unfold sLend at q
  cases e1 : ρ[i]? with
  | none => rw [e1] at q; exact q.elim
  | some c =>
    rw [e1] at q
    cases c with
    | own d =>
      cases d with
      | dct ks ds =>
        simp only at q
        cases e2 : s (ρ.set i (.fro (.dct ks ds))) with
        | stuck => rw [e2] at q; exact q.elim
        | exc x ρ' => rw [e2] at q; exact q.elim
        | ok v ρ' =>
          rw [e2] at q
          simp only at q
          by_cases hc : ρ' = ρ.set i (.fro (.dct ks ds)) ∧ v.dfree = true ∧ (ρ.set i .no).all cellFree = true
          case neg => rw [if_neg hc] at q; exact q.elim
          rw [if_pos hc] at q
          obtain ⟨rfl, hv, hfree⟩ := hc
          obtain ⟨p, e3, w⟩ := rel.heldAt e1 rfl
          obtain ⟨o, e4, ow⟩ := w.at_
          have ow' := ow
          obtain ⟨kvs, rfl, hk, r⟩ := ow
          have hil : i < ρ.length := (List.getElem?_eq_some_iff.mp e1).1
          refine ⟨p, .dK kvs, e4, trivial, fun od => ?_⟩
          obtain ⟨le1, rel1, rp1⟩ := rel.freeze e1 e3 e4 ow' od
          refine ⟨ρ.set i (.fro (.dct ks ds)), _, Rv, io, rel1, ?_⟩
          rw [e2]
          intro x H' F' le2 rel2 rp2
          have hp : F' p = some (.frz od (.dK kvs)) := le2 _ _ upd_same
          refine ⟨rel2.fH _ _ hp, q x _ (eraseH F' p) (fun a u ea => ?_) ?_ (rp2.erase hp hv)⟩
          · have ne : a ≠ p := fun z => by subst z; rw [w.nF] at ea; cases ea
            rw [erase_ne ne]
            exact le2 _ _ (by show upd F p _ a = _; rw [upd_ne ne]; exact ea)
          · have leF : FLe F (eraseH F' p) := fun a u ea => by
              have ne : a ≠ p := fun z => by subst z; rw [w.nF] at ea; cases ea
              rw [erase_ne ne]
              exact le2 _ _ (by show upd F p _ a = _; rw [upd_ne ne]; exact ea)
            refine ⟨fun a u ea => ?_, fun a u ea => ?_, fun a u ea => ?_, rel.len, fun j cj vj f1 f2 => ?_, rel.inj, rel.ios, rel.ioc, fun t ht => ?_, fun a ps z => ?_⟩
            · by_cases z : a = p
              · subst z; rw [erase_same] at ea; cases ea
              · rw [erase_ne z] at ea; rw [upd_ne z]; exact rel2.fH _ _ ea
            · have ne : a ≠ p := fun z => by subst z; rw [w.nR] at ea; cases ea
              rw [upd_ne ne]; exact rel2.rH _ _ ea
            · by_cases z : a = p
              · subst z; exact w.nR
              · rw [erase_ne z] at ea; exact rel2.dj _ _ ea
            · by_cases hj : j = i
              · subst hj
                rw [e1] at f1
                cases f1
                rw [e3] at f2
                cases f2
                exact ⟨p, rfl, erase_same, w.nR, _, upd_same, ow'.mono leF⟩
              · have c0 := rel.cell j cj vj f1 f2
                have f1' : (ρ.set i (.fro (.dct ks ds)))[j]? = some cj := by rw [List.getElem?_set_ne (fun z => hj z.symm)]; exact f1
                have c2 := rel2.cell j cj vj f1' f2
                have fr : cellFree cj = true := by
                  have : (ρ.set i .no)[j]? = some cj := by rw [List.getElem?_set_ne (fun z => hj z.symm)]; exact f1
                  exact List.all_eq_true.mp hfree cj (List.mem_of_getElem? this)
                have keep : ∀ {d' : D} {p' : Addr}, cj.held = some d' → d'.dfree = true → vj = some (.ref p') → OwnAt G.K F' Rv H' p' d' → OwnAt G.K (eraseH F' p) Rv (upd H' p (.dK kvs)) p' d' := fun {d' p'} hh hd hvv q => by
                  have ne : p' ≠ p := fun z => by
                    subst z
                    subst hvv
                    exact hj (rel.inj j i cj _ d' _ p' f1 e1 hh rfl f2 e3)
                  obtain ⟨o', g1, g2⟩ := q.at_
                  exact ⟨by rw [erase_ne ne]; exact q.nF, q.nR, o', by rw [upd_ne ne]; exact g1, g2.erase hp hd⟩
                cases cj with
                | no => trivial
                | fro d' => obtain ⟨y, rfl, ry⟩ := c0; exact ⟨y, rfl, ry.mono leF⟩
                | own d' => obtain ⟨p', rfl, oy⟩ := c2; exact ⟨p', rfl, keep rfl fr rfl oy⟩
                | io d' => obtain ⟨p', rfl, oy⟩ := c2; exact ⟨p', rfl, keep rfl fr rfl oy⟩
            · obtain ⟨t1, t2, t3, ps, t4, t5, t6⟩ := rel2.tab t ht
              have ne : t.1 ≠ p := fun z => by rw [z] at t1; rw [hp] at t1; cases t1
              refine ⟨by rw [erase_ne ne]; exact t1, t2, t3, ps, by rw [upd_ne ne]; exact t4, t5, fun pos cv z => ?_⟩
              obtain ⟨c, g1, g2⟩ := t6 pos cv z
              refine ⟨c, g1, ?_⟩
              rw [erase_ne fun z => by subst z; rw [hp] at g2; unfold LamX.CodeO at g2; cases g2]
              exact g2
            · by_cases h : a = p
              · subst h; rw [erase_same] at z; cases z
              · rw [erase_ne h] at z; exact rel2.nt _ _ z
      | _ => exact q.elim
    | _ => exact q.elim
end
theorem ev_lend (i : Nat) (s : SE) (ρ : Env) {ks : List Key} {ds : List D} (h : ρ[i]? = some (.own (.dct ks ds))) {v : D} (e : s (ρ.set i (.fro (.dct ks ds))) = .ok v (ρ.set i (.fro (.dct ks ds)))) (hv : v.dfree = true) (hc : (ρ.set i .no).all cellFree = true) : sLend i s ρ = .ok v ρ := by
  unfold sLend
  rw [h]
  show (match s (ρ.set i (.fro (.dct ks ds))) with | .ok v ρ' => _ | _ => _) = _
  rw [e]
  exact if_pos ⟨rfl, hv, hc⟩
end Dt

set_option Elab.async false
set_option linter.all false
set_option maxRecDepth 100000
set_option maxHeartbeats 4000000
/-! Methods of texts (startswith, endswith, partition, split); name += int; constant tuples of pairs of texts, and dict(..) of such. -/
namespace Dt
open PySem PySem.Spec PyProof.Rows L2
/-! ### x.method(y), both texts -/
def sM1 (g : Str → Str → Option D) (so se : SE) : SE := fun ρ => (so ρ).bind fun d ρ1 => match d with
  | .str a => (se ρ1).bind fun e ρ2 => match e with
    | .str b => ofO (g a b) ρ2
    | _ => .stuck
  | _ => .stuck
@[simp] theorem ev_m1 (g : Str → Str → Option D) (so se : SE) (ρ : Env) : sM1 g so se ρ = (so ρ).bind fun d ρ1 => match d with
  | .str a => (se ρ1).bind fun e ρ2 => match e with
    | .str b => ofO (g a b) ρ2
    | _ => .stuck
  | _ => .stuck := rfl
def M1S (G : Gx) (r : V → List V → Hp → VK → Prop) (g : Str → Str → Option D) : Prop := ∀ F H a b d (Q : VK), FLe F H → g a b = some d → (∀ v H' F', New F H F' H' → Rp G.K F' v d → Q v H') → r (.str a) [.str b] H Q
section
variable {ex : Exx} {X : Cx} {W : WX} {o e : Expr} {apos pos : Pos} {so se : SE} {id : String} {name : Str}
theorem d_m1 {r : V → List V → Hp → VK → Prop} {g : Str → Str → Option D} (slot : Slot "str" name id) (ty : typeOf (.builtin id) = pure (.type "method_descriptor")) (rule : MtR X id r) (sem : M1S (GK X ex) r g) (ho : DE (GK X ex) X W o so) (he : DE (GK X ex) X W e se)
    (hs : starEach [e] X.env = [(false, eval e X.env)] := by rfl) (hbase : attributeBase o name X.env (eval o X.env) = eval o X.env := by rfl) (hline : (apos.endLine == pos.line) = true := by rfl) :
    DE (GK X ex) X W (.Call (.Attribute o name apos) [e] [] pos) (sM1 g so se) :=
  wkE (pe_m1 slot ty rule ho he hs hbase hline) fun σ H Q ⟨ρ, F, Rv, io, rel, q⟩ => by
    refine ⟨ρ, F, Rv, io, rel, ?_⟩
    unfold sM1 at q
    cases e1 : so ρ with
    | stuck => rw [e1] at q; exact q.elim
    | exc x ρ' => rw [e1] at q; exact q
    | ok d ρ1 =>
      rw [e1, R.bind_ok] at q
      intro v H1 F1 le1 rel1 rp
      cases d with
      | str a =>
        cases rp
        refine ⟨⟨a, rfl⟩, ρ1, F1, Rv, io, rel1, ?_⟩
        cases e2 : se ρ1 with
        | stuck => simp only [e2] at q; exact q.elim
        | exc x ρ' => simp only [e2] at q; exact XPost.le q le1
        | ok l ρ2 =>
          simp only [e2, R.bind_ok] at q
          intro v2 H2 F2 le2 rel2 rp2
          cases l with
          | str b =>
            cases rp2
            simp only at q
            cases e3 : g a b with
            | none => rw [e3] at q; exact q.elim
            | some d =>
              rw [e3] at q
              exact sem F2 H2 a b d Q rel2.fH e3 fun v H' F' n r => q v H' F' ((le1.trans le2).trans n.f) (rel2.after n) r
          | _ => exact q.elim
      | _ => exact q.elim
end
def gStarts (a b : Str) : Option D := some (.bl (Txt.startswith a b))
def gEnds (a b : Str) : Option D := some (.bl (Txt.endswith a b))
def gPart (a b : Str) : Option D := if (b.length == 0) = false ∧ a.length ≤ sizeLine then some (.arg [.str (Txt.partition a b).1, .str (Txt.partition a b).2.1, .str (Txt.partition a b).2.2]) else none
def gSplit (a b : Str) : Option D := if (b.length == 0) = false ∧ a.length + 2 ≤ sizeLine then some (.lst ((Txt.split a b).map D.str)) else none
theorem m1_starts {G : Gx} : M1S G (fun x xs H Q => ∃ a b, x = .str a ∧ xs = [.str b] ∧ Q (.bl (Txt.startswith a b)) H) gStarts := fun F H a b d Q fh e q => by
  cases e
  exact ⟨a, b, rfl, rfl, q _ _ _ (New.refl fh) (.bl _)⟩
theorem m1_ends {G : Gx} : M1S G (fun x xs H Q => ∃ a b, x = .str a ∧ xs = [.str b] ∧ Q (.bl (Txt.endswith a b)) H) gEnds := fun F H a b d Q fh e q => by
  cases e
  exact ⟨a, b, rfl, rfl, q _ _ _ (New.refl fh) (.bl _)⟩
theorem m1_part {G : Gx} : M1S G (fun x xs H Q => ∃ a b, x = .str a ∧ xs = [.str b] ∧ (b.length == 0) = false ∧ a.length ≤ sizeLine ∧ ∀ p, H p = none → Q (.ref p) (upd H p (.tup [.str (Txt.partition a b).1, .str (Txt.partition a b).2.1, .str (Txt.partition a b).2.2]))) gPart := fun F H a b d Q fh e q => by
  unfold gPart at e
  by_cases hc : (b.length == 0) = false ∧ a.length ≤ sizeLine
  · rw [if_pos hc] at e
    cases e
    exact ⟨a, b, rfl, rfl, hc.1, hc.2, fun p n => q _ _ _ (New.obj fh n _) (.arg (.inl (.inl upd_same)) (.cons (.str _) (.cons (.str _) (.cons (.str _) .nil))))⟩
  · rw [if_neg hc] at e; cases e
theorem m1_split {G : Gx} : M1S G (fun x xs H Q => ∃ a b, x = .str a ∧ xs = [.str b] ∧ (b.length == 0) = false ∧ a.length + 2 ≤ sizeLine ∧ rNewStrs (Txt.split a b) H Q) gSplit := fun F H a b d Q fh e q => by
  unfold gSplit at e
  by_cases hc : (b.length == 0) = false ∧ a.length + 2 ≤ sizeLine
  · rw [if_pos hc] at e
    cases e
    exact ⟨a, b, rfl, rfl, hc.1, hc.2, fun p n => q _ _ _ (New.obj fh n _) (.lst upd_same (rps_strs _))⟩
  · rw [if_neg hc] at e; cases e
/-! ### name += int -/
def sAugI (f : Int → Int → Int) (i : Nat) (se : SE) : SS := fun ρ => match (ρ[i]? : Option Cell) with
  | some (.fro (.int a)) => (se ρ).bind fun e ρ' => match e, (ρ'[i]? : Option Cell) with
    | .int b, some (.fro _) => .ok .nx (ρ'.set i (.fro (.int (f a b))))
    | _, _ => .stuck
  | _ => .stuck
@[simp] theorem ev_augI (f : Int → Int → Int) (i : Nat) (se : SE) (ρ : Env) : sAugI f i se ρ = match (ρ[i]? : Option Cell) with
  | some (.fro (.int a)) => (se ρ).bind fun e ρ' => match e, (ρ'[i]? : Option Cell) with
    | .int b, some (.fro _) => .ok .nx (ρ'.set i (.fro (.int (f a b))))
    | _, _ => .stuck
  | _ => .stuck := rfl
section
variable {ex : Exx} {X : Cx} {W : WX} {e : Expr} {x : Str} {pos' pos : Pos} {se : SE}
theorem d_augI {i : Nat} {op : Operator} {f : Int → Int → Int} (hu : At X W) (hi : X.N[i]? = some x) (hx : Loc X.env.scope x) (he : DE (GK X ex) X W e se) (ho : PIp X op (ipI f)) (hf : X.fn x = true ∨ X.env.scope.names.lookup x = some .local := by first | exact .inl rfl | exact .inr rfl | assumption) :
    DS (GK X ex) X W (.AugAssign (.Name x pos') op e pos) (sAugI f i se) :=
  wkS (ps_aug hu.nd hi hx he ho hf) fun D σ H ⟨ρ, F, Rv, io, rel, q⟩ => by
    unfold sAugI at q
    cases e1 : ρ[i]? with
    | none => rw [e1] at q; exact q.elim
    | some c =>
      rw [e1] at q
      cases c with
      | fro d =>
        cases d with
        | int a =>
          simp only at q
          obtain ⟨w, e2, y, ew, ry⟩ := rel.slot e1
          subst ew
          cases ry
          refine ⟨_, e2, ρ, F, Rv, io, rel, ?_⟩
          cases e3 : se ρ with
          | stuck => rw [e3] at q; exact q.elim
          | exc x ρ' => rw [e3] at q; exact q
          | ok d2 ρ' =>
            rw [e3, R.bind_ok] at q
            intro v H' F' le rel' rp
            cases d2 with
            | int b =>
              cases rp
              cases e4 : ρ'[i]? with
              | none => simp only [e4] at q; exact q.elim
              | some c' =>
                cases c' with
                | fro d' =>
                  simp only [e4] at q
                  exact ⟨a, b, rfl, rfl, q _ _ F' le (rel'.setFro (.int _) (fun e z => by rw [e4] at z; cases z))⟩
                | _ => simp only [e4] at q; exact q.elim
            | _ => simp only at q; exact q.elim
        | _ => exact q.elim
      | _ => exact q.elim
end
/-! ### a constant tuple of pairs of texts -/
def PairsC (K : PySem.W.Frag) (mg : Str → Option Value) (x : Str) (ps : List (Str × Str)) : Prop := ∃ (a : Addr) (bs : List Addr) (o : Obj) (n : Nat), mg x = some (.ref a) ∧ K.lookup a = some o ∧ o.cls = .type "tuple" ∧ o.dict = none ∧ o.data = .seq (bs.map Value.ref).toArray n ∧
  bs.length ≤ 16777216 ∧ Paired (fun b p => ∀ F : Hp, SqT K F b [.str p.1, .str p.2]) bs ps
def pairA (p : Str × Str) : D := .arg [.str p.1, .str p.2]
theorem pairs_rps {K : PySem.W.Frag} {F : Hp} : ∀ {bs : List Addr} {ps : List (Str × Str)}, Paired (fun b p => ∀ F : Hp, SqT K F b [.str p.1, .str p.2]) bs ps → Rps K F (bs.map V.ref) (ps.map pairA)
  | _, _, .nil => .nil
  | _, _, .cons h t => .cons (.arg (h F) (.cons (.str _) (.cons (.str _) .nil))) (pairs_rps t)
theorem vals_refs : ∀ bs : List Addr, Vals (bs.map V.ref) (bs.map Value.ref)
  | [] => .nil
  | b :: bs => .cons rfl (vals_refs bs)
section
variable {ex : Exx} {X : Cx} {W : WX} {x : Str} {p pos : Pos} {ps : List (Str × Str)}
theorem d_pairs (hg : Gl X x) (h : PairsC X.K X.mg x ps) (hd : (x == ("__debug__" : Str)) = false := by decide) : DE (GK X ex) X W (.Name x p) (sCst (.arg (ps.map pairA))) :=
  let ⟨a, bs, o, n, h1, h2, h3, _, h5, h6, h7⟩ := h
  d_globT (vs := bs.map V.ref) hg ⟨a, h1, fun F => .inr ⟨o, _, n, h2, h3, h5, by rw [List.size_toArray, List.length_map]; exact line_pos h6, by rw [List.toList_toArray]; exact vals_refs bs⟩⟩ (fun F => pairs_rps h7) hd
def rDictK (K : PySem.W.Frag) : List V → Hp → VK → Prop := fun xs H Q => ∃ (a : Addr) (bs : List Addr) (kvs : List (Key × V)) (o : Obj) (n : Nat), xs = [V.ref a] ∧ K.lookup a = some o ∧ o.cls = .type "tuple" ∧ o.dict = none ∧ o.data = .seq (bs.map Value.ref).toArray n ∧ bs.length ≤ 16777216 ∧ Paired (fun p kv => SqT K H p [kV kv.1, kv.2]) bs kvs ∧ ∀ p, H p = none → Q (.ref p) (upd H p (.dK (mergeK [] kvs)))
theorem call_dictK (calm : X.calm = true) : CallR X (.type "dict") (rDictK X.K) := by
  intro pins s σ H xs us Q I r ⟨a, ps, kvs, o, n, ex, lk, hc, hd, hdat, hz, hp, q⟩
  subst ex
  obtain ⟨u, eu, rx⟩ := vals1 r
  subst eu; cases rx
  have at1 : s.heap.get? a = some o := I.kIn _ _ lk
  have hz : ps.length ≤ sizeLine := line_pos hz
  obtain ⟨vs, prs, rel, l1, l2, hpr⟩ := pairsV I hp
  refine PySem.call_dict_pairs (knd := mixKind X.prog X.w) (kvs := prs) (PairArg.tuple a (ps.map Value.ref).toArray (fun j => ps.getD j 0) vs) (I.ok.hd calm) ⟨⟨o, n, at1, hc, hd, hdat⟩, by simp [l1], fun j k v e => ?_⟩ ⟨by omega, fun j k v e => ?_⟩ (by omega) fun h1 tk hd1 old => ?_
  · obtain ⟨b, key, e1, e2, e3, e4⟩ := hpr j k v e
    exact ⟨by simp [e1], .inl (by show s.heap.IsTuple (ps.getD j 0) #[k, v]; rw [List.getD_eq_getElem?_getD, e1]; exact e2)⟩
  · obtain ⟨b, key, e1, e2, e3, e4⟩ := hpr j k v e
    exact ⟨key, e3, e4⟩
  · have big : (s.heap.objs.size == sysModules) = false := beq_eq_false_iff_ne.mpr (Nat.ne_of_gt I.big)
    have fits : (mergeK [] kvs).length ≤ sizeLine := Nat.le_trans (length_mergeK kvs []) (by rw [List.length_nil, Nat.zero_add, rel.length, l2]; exact hz)
    exact ⟨.ref s.heap.objs.size, _, I.laid (t' := tk) (o := .dK (mergeK [] kvs)) (fun b o e => old b o (by simp) e) (Nat.le_refl _) ⟨fits, big, merged [] prs, KV.merge rel .nil, hd1⟩, rfl, q _ (I.hok.fresh (Nat.le_refl _))⟩
def kvS (p : Str × Str) : Key × V := (Sum.inr p.1, .str p.2)
def dctS (ps : List (Str × Str)) : D := .dct (ps.map fun p => Sum.inr p.1) (ps.map fun p => .str p.2)
theorem rps_snd {K : PySem.W.Frag} {F : Hp} : ∀ ps : List (Str × Str), Rps K F ((ps.map kvS).map (·.2)) (ps.map fun p => .str p.2)
  | [] => .nil
  | p :: ps => .cons (.str _) (rps_snd ps)
theorem paired_snd {K : PySem.W.Frag} {H : Hp} : ∀ {bs : List Addr} {ps : List (Str × Str)}, Paired (fun b p => ∀ F : Hp, SqT K F b [.str p.1, .str p.2]) bs ps → Paired (fun b kv => SqT K H b [kV kv.1, kv.2]) bs (ps.map kvS)
  | _, _, .nil => .nil
  | _, _, .cons h t => .cons (h H) (paired_snd t)
/-- dict(NAME) -/
theorem d_dictC {q : Pos} (hu : At X W) (hg : Gl X x) (h : PairsC X.K X.mg x ps) (gd : Gl X "dict") (md : X.mg "dict" = none) (hm : mergeK [] (ps.map kvS) = ps.map kvS) (hd : (x == ("__debug__" : Str)) = false := by decide)
    (hs : starEach [Expr.Name x q] X.env = (false, eval (.Name x q) X.env) :: starEach [] X.env := by rfl) (hpl : (backTo pos (starEach [] X.env)).any (·.1) = false := by rfl) :
    DF (GK X ex) X W (.Call (.Name "dict" p) [.Name x q] [] pos) (sCst (dctS ps)) :=
  let ⟨a, bs, o, n, h1, h2, h3, h4, h5, h6, h7⟩ := h
  wkE (pe_callTy (call_dictK hu.calm) gd md (by decide +kernel) (pa_cons (pe_glob hg h1 (show RelV (.ref a) (.ref a) from rfl) hd) pa_nil hs) (by decide) (by decide) hs hpl) fun σ H Q ⟨ρ, F, Rv, io, rel, k⟩ => by
    refine ⟨a, bs, ps.map kvS, o, n, rfl, h2, h3, h4, h5, h6, paired_snd h7, fun pp np => ?_⟩
    rw [hm]
    have nF : F pp = none := rel.fH.noneOf np
    have nR : Rv pp = none := rel.rH.noneOf np
    exact k pp _ F (FLe.refl F) (rel.newH np _) ⟨nF, nR, _, upd_same, ⟨_, rfl, by rw [List.map_map]; rfl, rps_snd ps⟩⟩ (rel.loose np)
end
/-! ### a, b = new object, y -/
def sParF (i j : Nat) (sF sE : SE) : SS := fun ρ => (sF ρ).bind fun d ρ1 => (sE ρ1).bind fun e ρ2 => (gOwn i d ρ2).bind fun _ ρ3 => (gSet j e ρ3).bind fun _ ρ4 => .ok .nx ρ4
@[simp] theorem ev_parF (i j : Nat) (sF sE : SE) (ρ : Env) : sParF i j sF sE ρ = (sF ρ).bind fun d ρ1 => (sE ρ1).bind fun e ρ2 => (gOwn i d ρ2).bind fun _ ρ3 => (gSet j e ρ3).bind fun _ ρ4 => .ok .nx ρ4 := rfl
section
variable {ex : Exx} {X : Cx} {W : WX} {pos : Pos}
theorem d_parF {i j : Nat} {x y : Str} {a b : Expr} {sF sE : SE} {px py pt : Pos} {kt k2 pt2} (hu : At X W) (hi : X.N[i]? = some x) (hj : X.N[j]? = some y) (hij : i ≠ j) (hx : X.env.scope.names.lookup x = some .local) (hy : X.env.scope.names.lookup y = some .local)
    (ha : DF (GK X ex) X W a sF) (hb : DE (GK X ex) X W b sE) (hw : swappedStores [.Tuple [.Name x px, .Name y py] kt pt] (.Tuple [a, b] k2 pt2) X.env = pure (some [x, y])) (hs : swapsWithSole [.Tuple [.Name x px, .Name y py] kt pt] (.Tuple [a, b] k2 pt2) pos.line X.env = pure false := by rfl)
    (h1 : starEach [a, b] X.env = (false, eval a X.env) :: starEach [b] X.env := by rfl) (h2 : starEach [b] X.env = (false, eval b X.env) :: starEach [] X.env := by rfl) :
    DS (GK X ex) X W (.Assign [.Tuple [.Name x px, .Name y py] kt pt] (.Tuple [a, b] k2 pt2) pos) (sParF i j sF sE) := wkS (ps_par hu.calm hu.nd hi hj hij hx hy (pa_cons ha (pa_cons hb pa_nil h2) h1) hw hs) fun D σ H ⟨ρ, F, Rv, io, rel, q⟩ => by
  refine ⟨ρ, F, Rv, io, rel, ?_⟩
  rw [ev_parF] at q
  cases e1 : sF ρ with
  | stuck => rw [e1] at q; exact q.elim
  | exc x ρ1 => rw [e1] at q; exact q
  | ok d ρ1 =>
    rw [e1, R.bind_ok] at q
    intro p H1 F1 le1 rel1 ow lo
    obtain ⟨o, ho, oo⟩ := ow.at_
    refine ⟨ρ1, F1, _, io, rel1.keep ho oo ow.nF lo, ?_⟩
    cases e2 : sE ρ1 with
    | stuck => rw [e2] at q; exact q.elim
    | exc x ρ2 => rw [e2] at q; exact fun cls dd σ' H' F' le rel' xr => q cls dd σ' H' F' (le1.trans le) (rel'.resDrop ow.nR).1 xr
    | ok e ρ2 =>
      rw [e2, R.bind_ok] at q
      intro v H2 F2 le2 rel2 rp
      obtain ⟨relD, n1, n2, lo2⟩ := rel2.resDrop ow.nR
      refine ⟨.ref p, v, rfl, ?_⟩
      cases e3 : gOwn i d ρ2 with
      | stuck => rw [e3] at q; exact q.elim
      | exc x ρ3 => unfold gOwn at e3; split at e3 <;> cases e3
      | ok u ρ3 =>
        rw [e3, R.bind_ok] at q
        obtain ⟨hio, rfl⟩ := gOwn_ok e3
        have relS := relD.setOwn (i := i) (p := p) (d := d) ⟨n1, ow.nR, o, n2, oo.mono le2⟩ lo2 hio
        cases e4 : gSet j e (ρ2.set i (.own d)) with
        | stuck => rw [e4] at q; exact q.elim
        | exc x ρ4 => unfold gSet at e4; split at e4 <;> cases e4
        | ok u ρ4 =>
          rw [e4, R.bind_ok] at q
          obtain ⟨h4, rfl⟩ := gSet_ok e4
          exact q _ H2 F2 (le1.trans le2) (relS.setFro rp h4)
end
/-! ### a def with one star parameter that bears another name -/
section
variable {P : Program} {w : World} {K : PySem.W.Frag} {mg : Str → Option Value} {base : Heap}
structure FnSA (K : PySem.W.Frag) (mg : Str → Option Value) (x q : Str) (st : Stmt) (pv : Str) : Prop where
  there : ∃ f fd, Fun K q q st f fd ∧ mg x = some (.ref f) ∧ ∀ us rest : List Value, us.length = ([] : List Str).length → bindArgs fd ⟨us ++ rest, []⟩ = (newTuple rest >>= fun t => pure (([] : List Str).zip us ++ [(pv, t)]))
theorem cal_SA {x q : Str} {st : Stmt} {N : List Str} {pv : Str} {k : Nat} {body : SS} (ea : String → Addr) (F : FnSA K mg x q st pv) (S : FnScope N [pv] (defScope st))
    (h : ∀ (f : Addr) (cdv : Value) (A : Around) (outer : List PySem.Env) (s : Shared) (H : Hp) (E : XK), Room k (A.deeper (envOfC q (defScope st) s.heap.objs.size f cdv)) →
      DSs ⟨K, ⟨ea, []⟩⟩ (cxOf (L2N.CX P w) P w K mg base N q (defScope st) f cdv A outer s H E) (wE E) (defBody st) body) : CalS P w K mg base x (k + 1) (spS ⟨K, ⟨ea, []⟩⟩ (runP N.length 1 body)) := by
  obtain ⟨f, fd, F, hm, hb⟩ := F.there
  exact ⟨f, d_defS ea F S hb (h f), hm, F.kp⟩
end
end Dt

set_option Elab.async false
set_option linter.all false
set_option maxRecDepth 100000
set_option maxHeartbeats 4000000
namespace Lw
open PySem PySem.Spec PyProof.Rows L2 Dt
noncomputable section
def top (i : Nat) : Stmt := PySem.Challenge.pw_countersums_k28_whole_wrong_texts.main.body.getD i (.Pass ⟨0, 0, 0, 0⟩)
def wdX : Exn → Option D := fun x => match x.arg with
  | .non => if x.cls = "NoExpression" then some (.str "expression") else if x.cls = "NoScript" then some (.str "script") else if x.cls = "NoText" then some (.str "text") else none
  | _ => none
abbrev st_L_draw : Stmt := top 48
theorem sc_L_draw : FnScope ["_law_tape", "_law_many", "_law_prime", "_law_found", "_law_cell"] ["_law_tape", "_law_many"] (defScope st_L_draw) := ⟨rfl, rfl, rfl, by decide +kernel, rfl, by decide +kernel, by decide +kernel⟩
def u0_L_draw : SS := (sSeq (sAsg (gSet 4) (sOps gMod (b2 (sVal (sOps gInt (bCons (sVal (sOps gAdd (b2 (sLoc 4) (sVal (sOps gMul (b2 (sVal (sCst (.int 1000003))) (sVal (sOps gIdx (b2 (sLoc 0) (sVal (sCst (.int 1)))))))))))) bNil))) (sLoc 2))))
  (sSeq (sAsg (gSet 4) (sOps gMod (b2 (sVal (sOps gInt (bCons (sVal (sOps gAdd (b2 (sVal (sOps gAdd (b2 (sVal (sOps gMul (b2 (sLoc 4) (sLoc 4)))) (sVal (sOps gMul (b2 (sVal (sCst (.int 1181783497276652981))) (sLoc 4))))))) (sVal (sCst (.int 2049848353892358983)))))) bNil))) (sLoc 2))))
  (sAsg (gSet 4) (sOps gMod (b2 (sVal (sOps gInt (bCons (sVal (sOps gAdd (b2 (sVal (sOps gMul (b2 (sLoc 4) (sLoc 4)))) (sVal (sCst (.int 1442695040888963407)))))) bNil))) (sLoc 2))))))
def u1_L_draw : SS := (sSeq (sAsg (gSet 4) (sCst (.int 0)))
  (sSeq (sIfS (sTst (sOps gGt (b2 (sVal (sOps gLen (bCons (sVal (sOps gIdx (b2 (sLoc 0) (sVal (sCst (.int 0)))))) bNil))) (sVal (sCst (.int 0)))))) (sAsg (gSet 4) (sOps gIdx (b2 (sVal (sOps gIdx (b2 (sLoc 0) (sVal (sCst (.int 0)))))) (sVal (sOps gMod (b2 (sVal (sOps gInt (bCons (sVal (sOps gIdx (b2 (sLoc 0) (sVal (sCst (.int 1)))))) bNil))) (sVal (sOps gLen (bCons (sVal (sOps gIdx (b2 (sLoc 0) (sVal (sCst (.int 0)))))) bNil))))))))) sNx)
  (sSeq (sIfS (tOrS (sTst (sOps gGe (b2 (sVal (sOps gIdx (b2 (sLoc 0) (sVal (sCst (.int 1)))))) (sVal (sOps gLen (bCons (sVal (sOps gIdx (b2 (sLoc 0) (sVal (sCst (.int 0)))))) bNil)))))) (sTst (sOps gLt (b2 (sLoc 4) (sVal (sOps gPow (b2 (sVal (sCst (.int 10))) (sVal (sCst (.int 18)))))))))) u0_L_draw sNx)
  (sSeq (sAsg (gPut 0 (sVal (sCst (.int 1)))) (sOps gAdd (b2 (sVal (sOps gIdx (b2 (sLoc 0) (sVal (sCst (.int 1)))))) (sVal (sCst (.int 1))))))
  (sAsg (gPut 0 (sVal (sCst (.int 2)))) (sVar 4))))))
def b_L_draw : SS := (sSeq (sAsg (gSet 2) (sCst (.int 2305843009213693951)))
  (sSeq (sIfS (sTst (sOps gLt (b2 (sVal (sOps gIdx (b2 (sLoc 0) (sVal (sCst (.int 2)))))) (sLoc 1)))) u1_L_draw sNx)
  (sSeq (sAsg (gSet 3) (sOps gMod (b2 (sVal (sOps gInt (bCons (sVal (sOps gIdx (b2 (sLoc 0) (sVal (sCst (.int 2)))))) bNil))) (sLoc 1))))
  (sSeq (sAsg (gPut 0 (sVal (sCst (.int 2)))) (sOps gDiv (b2 (sVal (sOps gIdx (b2 (sLoc 0) (sVal (sCst (.int 2)))))) (sLoc 1))))
  (sRet (sVar 3))))))
def m_L_draw : List D → FR := runI 5 2 b_L_draw
abbrev st_L_of : Stmt := top 49
theorem sc_L_of : FnScope ["_law_tape", "_law_some"] ["_law_tape", "_law_some"] (defScope st_L_of) := ⟨rfl, rfl, rfl, by decide +kernel, rfl, by decide +kernel, by decide +kernel⟩
def b_L_of : SS := (sRet (sOps gIdx (b2 (sLoc 1) (sVal (sCallI 0 2 (m_L_draw) (sCons (sOps gLen (bCons (sLoc 1) bNil)) sNil))))))
def m_L_of : List D → FR := runI 2 2 b_L_of
abbrev st_L_ways : Stmt := top 50
theorem sc_L_ways : FnScope [] [] (defScope st_L_ways) := ⟨rfl, rfl, rfl, by decide +kernel, rfl, by decide +kernel, by decide +kernel⟩
def b_L_ways : SS := (sRet (sLst (sCons (sCst (.str "add")) (sCons (sCst (.str "less")) (sCons (sCst (.str "most")) (sCons (sCst (.str "least")) (sCons (sCst (.str "update")) (sCons (sCst (.str "subtract")) sNil))))))))
def m_L_ways : List D → FR := runP 0 0 b_L_ways
abbrev st_L_sum : Stmt := top 51
theorem sc_L_sum : FnScope ["_law_tape", "_law_names", "_law_nodes", "_law_first", "_law_one"] ["_law_tape", "_law_names", "_law_nodes"] (defScope st_L_sum) := ⟨rfl, rfl, rfl, by decide +kernel, rfl, by decide +kernel, by decide +kernel⟩
def b_L_sum (self : List D → FR) : SS := (sSeq (sIfS (tOrS (sTst (sOps gLt (b2 (sLoc 2) (sVal (sCst (.int 2)))))) (sTst (sOps gEq (b2 (sVal (sCallI 0 2 (m_L_draw) (sCons (sCst (.int 6)) sNil))) (sVal (sCst (.int 0))))))) (sRet (sTup (sCons (sCst (.str "get")) (sCons (sCallI 0 2 (m_L_of) (sCons (sVar 1) sNil)) sNil)))) sNx)
  (sSeq (sIfS (tOrS (sTst (sOps gLt (b2 (sLoc 2) (sVal (sCst (.int 3)))))) (sTst (sOps gEq (b2 (sVal (sCallI 0 2 (m_L_draw) (sCons (sCst (.int 5)) sNil))) (sVal (sCst (.int 0))))))) (sRet (sTup (sCons (sCallI 0 2 (m_L_of) (sCons (sLst (sCons (sCst (.str "plus")) (sCons (sCst (.str "minus")) sNil))) sNil)) (sCons (sCallI 0 3 self (sCons (sVar 1) (sCons (sOps gSub (b2 (sLoc 2) (sVal (sCst (.int 1))))) sNil))) sNil)))) sNx)
  (sSeq (sAsg (gSet 3) (sOps gAdd (b2 (sVal (sCst (.int 1))) (sVal (sCallI 0 2 (m_L_draw) (sCons (sOps gSub (b2 (sLoc 2) (sVal (sCst (.int 2))))) sNil))))))
  (sSeq (sAsg (gSet 4) (sCallI 0 3 self (sCons (sVar 1) (sCons (sVar 3) sNil))))
  (sRet (sTup (sCons (sCallI 0 2 (m_L_of) (sCons (sCallP 0 (m_L_ways) sNil) sNil)) (sCons (sVar 4) (sCons (sCallI 0 3 self (sCons (sVar 1) (sCons (sOps gSub (b2 (sVal (sOps gSub (b2 (sLoc 2) (sVal (sCst (.int 1)))))) (sLoc 3))) sNil))) sNil)))))))))
def m_L_sum : Nat → List D → FR
  | 0 => fun _ => .stuck
  | n + 1 => runI 5 3 (b_L_sum (m_L_sum n))
abbrev st_L_step : Stmt := top 54
theorem sc_L_step : FnScope ["_law_tape", "_law_names", "_law_nodes"] ["_law_tape", "_law_names", "_law_nodes"] (defScope st_L_step) := ⟨rfl, rfl, rfl, by decide +kernel, rfl, by decide +kernel, by decide +kernel⟩
def b_L_step : SS := (sRet (sTup (sCons (sCallI 0 2 (m_L_of) (sCons (sVar 1) sNil)) (sCons (sCallI 0 2 (m_L_of) (sCons (sOps gAdd (b2 (sVal (sCallP 0 (m_L_ways) sNil)) (sVal (sLst (sCons (sCst (.str "set")) sNil))))) sNil)) (sCons (sCallI 0 3 (m_L_sum 40) (sCons (sVar 1) (sCons (sVar 2) sNil))) sNil)))))
def m_L_step : List D → FR := runI 3 3 b_L_step
abbrev st_L_script : Stmt := top 55
theorem sc_L_script : FnScope ["_law_tape", "_law_names", "_law_steps", "_law_part"] ["_law_tape", "_law_names", "_law_steps"] (defScope st_L_script) := ⟨rfl, rfl, rfl, by decide +kernel, rfl, by decide +kernel, by decide +kernel⟩
def c0_L_script : SE := sComp [3] (iRng1' (sCons (sCallI 0 2 (m_L_draw) (sCons (sOps gAdd (b2 (sLoc 2) (sVal (sCst (.int 1))))) sNil)) sNil)) (gSet 3) tT1 (sCallI 0 3 (m_L_step) (sCons (sVar 1) (sCons (sCst (.int 3)) sNil)))
def b_L_script : SS := (sRet (sOps gTuple (bCons (sVal c0_L_script) bNil)))
def m_L_script : List D → FR := runI 4 3 b_L_script
abbrev st_L_bent : Stmt := top 56
theorem sc_L_bent : FnScope ["_law_tape", "_law_text", "_law_at", "_law_signs"] ["_law_tape", "_law_text"] (defScope st_L_bent) := ⟨rfl, rfl, rfl, by decide +kernel, rfl, by decide +kernel, by decide +kernel⟩
def b_L_bent : SS := (sSeq (sAsg (gSet 2) (sCallI 0 2 (m_L_draw) (sCons (sOps gAdd (b2 (sVal (sOps gLen (bCons (sLoc 1) bNil))) (sVal (sCst (.int 1))))) sNil)))
  (sSeq (sAsg (gOwn 3) (sLst (sCons (sCst (.str " ")) (sCons (sCst (.str "(")) (sCons (sCst (.str ")")) (sCons (sCst (.str "+")) (sCons (sCst (.str "-")) (sCons (sCst (.str "|")) (sCons (sCst (.str "&")) (sCons (sCst (.str ",")) (sCons (sCst (.str "a")) (sCons (sCst (.str ".")) (sCons (sCst (.str "=")) (sCons (sCst (.str "\n")) (sCons (sCst (.str "update(")) (sCons (sCst (.str "A")) sNil))))))))))))))))
  (sSeq (sIfS (sTst (sOps gEq (b2 (sVal (sCallI 0 2 (m_L_draw) (sCons (sCst (.int 2)) sNil))) (sVal (sCst (.int 0)))))) (sRet (sOps gAdd (b2 (sVal (sOps gAdd (b2 (sVal (sSlice (sLoc 1) sPn (sPe (sVar 2)))) (sVal (sCallI 0 2 (m_L_of) (sCons (sVar 3) sNil)))))) (sVal (sSlice (sLoc 1) (sPe (sVar 2)) sPn))))) sNx)
  (sRet (sOps gAdd (b2 (sVal (sSlice (sLoc 1) sPn (sPe (sVar 2)))) (sVal (sSlice (sLoc 1) (sPe (sOps gAdd (b2 (sLoc 2) (sVal (sCst (.int 1)))))) sPn))))))))
def m_L_bent : List D → FR := runI 4 2 b_L_bent
abbrev st_is_name : Stmt := top 14
theorem sc_is_name : FnScope ["thing", "sign"] ["thing"] (defScope st_is_name) := ⟨rfl, rfl, rfl, by decide +kernel, rfl, by decide +kernel, by decide +kernel⟩
def c0_is_name : SE := sComp [1] (iAny (sVar 0)) (gSet 1) tT1 (sOps gIn (b2 (sLoc 1) (sVal (sCst (.str "abcdefghijklmnopqrstuvwxyz")))))
def b_is_name : SS := (sRet (sAnd (sIsi ["str"] (sLoc 0)) (sAnd (sChain gLe gLe (sVal (sCst (.int 1))) (sVal (sOps gLen (bCons (sLoc 0) bNil))) (sVal (sCst (.int 8)))) (sOps gAll (bCons (sVal c0_is_name) bNil)))))
def m_is_name : List D → FR := runP 2 1 b_is_name
abbrev st_is_node : Stmt := top 20
theorem sc_is_node : FnScope ["thing", "deep", "part"] ["thing", "deep"] (defScope st_is_node) := ⟨rfl, rfl, rfl, by decide +kernel, rfl, by decide +kernel, by decide +kernel⟩
def c0_is_node (self : List D → FR) : SE := sComp [2] (iAny (sSlice (sLoc 0) (sPe (sCst (.int 1))) sPn)) (gSet 2) tT1 (sCallP 2 self (sCons (sVar 2) (sCons (sOps gAdd (b2 (sLoc 1) (sVal (sCst (.int 1))))) sNil)))
def b_is_node (self : List D → FR) : SS := (sSeq (sIfS (tOrS (sTst (sOps gGt (b2 (sLoc 1) (sVal (sCst (.int 12)))))) (tOrS (tNotS (sTru (sVal (sIsi ["tuple"] (sLoc 0))))) (tOrS (sTst (sOps gLt (b2 (sVal (sOps gLen (bCons (sLoc 0) bNil))) (sVal (sCst (.int 2)))))) (tNotS (sTru (sVal (sIsi ["str"] (sVal (sOps gIdx (b2 (sLoc 0) (sVal (sCst (.int 0))))))))))))) (sRet (sCst (.bl false))) sNx)
  (sSeq (sIfS (sTst (sOps gEq (b2 (sVal (sOps gIdx (b2 (sLoc 0) (sVal (sCst (.int 0)))))) (sVal (sCst (.str "get")))))) (sRet (sAnd (sOps gEq (b2 (sVal (sOps gLen (bCons (sLoc 0) bNil))) (sVal (sCst (.int 2))))) (sCallP 1 (m_is_name) (sCons (sOps gIdx (b2 (sLoc 0) (sVal (sCst (.int 1))))) sNil)))) sNx)
  (sSeq (sIfS (sTst (sOps gIn (b2 (sVal (sOps gIdx (b2 (sLoc 0) (sVal (sCst (.int 0)))))) (sVal (sCst (.arg [.str "plus", .str "minus"])))))) (sRet (sAnd (sOps gEq (b2 (sVal (sOps gLen (bCons (sLoc 0) bNil))) (sVal (sCst (.int 2))))) (sCallP 2 self (sCons (sOps gIdx (b2 (sLoc 0) (sVal (sCst (.int 1))))) (sCons (sOps gAdd (b2 (sLoc 1) (sVal (sCst (.int 1))))) sNil))))) sNx)
  (sRet (sAnd (sOps gIn (b2 (sVal (sOps gIdx (b2 (sLoc 0) (sVal (sCst (.int 0)))))) (sVal (sCst (.arg [.str "add", .str "less", .str "most", .str "least", .str "update", .str "subtract"]))))) (sAnd (sOps gEq (b2 (sVal (sOps gLen (bCons (sLoc 0) bNil))) (sVal (sCst (.int 3))))) (sOps gAll (bCons (sVal (c0_is_node self)) bNil))))))))
def m_is_node : Nat → List D → FR
  | 0 => fun _ => .stuck
  | n + 1 => runP 3 2 (b_is_node (m_is_node n))
abbrev st_size_of : Stmt := top 21
theorem sc_size_of : FnScope ["expression", "part"] ["expression"] (defScope st_size_of) := ⟨rfl, rfl, rfl, by decide +kernel, rfl, by decide +kernel, by decide +kernel⟩
def c0_size_of (self : List D → FR) : SE := sComp [1] (iAny (sSlice (sLoc 0) (sPe (sCst (.int 1))) sPn)) (gSet 1) tT1 (sCallP 1 self (sCons (sVar 1) sNil))
def b_size_of (self : List D → FR) : SS := (sRet (sIf (sTst (sOps gEq (b2 (sVal (sOps gIdx (b2 (sLoc 0) (sVal (sCst (.int 0)))))) (sVal (sCst (.str "get")))))) (sCst (.int 1)) (sOps gAdd (b2 (sVal (sCst (.int 1))) (sVal (sOps gSum (bCons (sVal (c0_size_of self)) bNil)))))))
def m_size_of : Nat → List D → FR
  | 0 => fun _ => .stuck
  | n + 1 => runP 2 1 (b_size_of (m_size_of n))
abbrev st_names_in : Stmt := top 22
theorem sc_names_in : FnScope ["expression", "found", "part"] ["expression"] (defScope st_names_in) := ⟨rfl, rfl, rfl, by decide +kernel, rfl, by decide +kernel, by decide +kernel⟩
def t0_names_in (self : List D → FR) : SS := (sExpr (sDUpd 1 (sCallP 1 self (sCons (sVar 2) sNil))))
def l0_names_in (self : List D → FR) : SS := sFor (iAny (sSlice (sLoc 0) (sPe (sCst (.int 1))) sPn)) (gSet 2) (t0_names_in self)
def b_names_in (self : List D → FR) : SS := (sSeq (sIfS (sTst (sOps gEq (b2 (sVal (sOps gIdx (b2 (sLoc 0) (sVal (sCst (.int 0)))))) (sVal (sCst (.str "get")))))) (sRet (sDisp [((sOps gIdx (b2 (sLoc 0) (sVal (sCst (.int 1))))), (sCst (.bl true)))])) sNx)
  (sSeq (sAsg (gOwn 1) (sCst (.dct [] [])))
  (sSeq (l0_names_in self)
  (sRet (sVar 1)))))
def m_names_in : Nat → List D → FR
  | 0 => fun _ => .stuck
  | n + 1 => runP 3 1 (b_names_in (m_names_in n))
abbrev st_is_expression : Stmt := top 23
theorem sc_is_expression : FnScope ["thing"] ["thing"] (defScope st_is_expression) := ⟨rfl, rfl, rfl, by decide +kernel, rfl, by decide +kernel, by decide +kernel⟩
def b_is_expression : SS := (sRet (sAnd (sCallP 2 (m_is_node 40) (sCons (sVar 0) (sCons (sCst (.int 1)) sNil))) (sAnd (sOps gLe (b2 (sVal (sCallP 1 (m_size_of 40) (sCons (sVar 0) sNil))) (sVal (sCst (.int 12))))) (sOps gLe (b2 (sVal (sOps gLen (bCons (sVal (sCallP 1 (m_names_in 40) (sCons (sVar 0) sNil))) bNil))) (sVal (sCst (.int 3))))))))
def m_is_expression : List D → FR := runP 1 1 b_is_expression
abbrev st_looked_expressions : Stmt := top 24
theorem sc_looked_expressions : FnScope ["expressions", "expression"] ["expressions"] (defScope st_looked_expressions) := ⟨rfl, rfl, rfl, by decide +kernel, rfl, by decide +kernel, by decide +kernel⟩
def t0_looked_expressions : SS := (sIfS (tNotS (sTru (sVal (sCallP 1 (m_is_expression) (sCons (sVar 1) sNil))))) (sRaise "NoExpression") sNx)
def l0_looked_expressions : SS := sFor (iAny (sVar 0)) (gSet 1) t0_looked_expressions
def b_looked_expressions : SS := l0_looked_expressions
def m_looked_expressions : List D → FR := runP 2 1 b_looked_expressions
abbrev st_sign_of : Stmt := top 37
theorem sc_sign_of : FnScope ["word"] ["word"] (defScope st_sign_of) := ⟨rfl, rfl, rfl, by decide +kernel, rfl, by decide +kernel, by decide +kernel⟩
def b_sign_of : SS := (sRet (sOps gIdx (b2 (sVal (sCst (dctS ([("add", "+"), ("less", "-"), ("most", "|"), ("least", "&")] : List (Str × Str))))) (sLoc 0))))
def m_sign_of : List D → FR := runP 1 1 b_sign_of
abbrev st_text_of : Stmt := top 38
theorem sc_text_of : FnScope ["expression"] ["expression"] (defScope st_text_of) := ⟨rfl, rfl, rfl, by decide +kernel, rfl, by decide +kernel, by decide +kernel⟩
def b_text_of (self : List D → FR) : SS := (sSeq (sIfS (sTst (sOps gEq (b2 (sVal (sOps gIdx (b2 (sLoc 0) (sVal (sCst (.int 0)))))) (sVal (sCst (.str "get")))))) (sRet (sOps gIdx (b2 (sLoc 0) (sVal (sCst (.int 1)))))) sNx)
  (sSeq (sIfS (tOrS (sTst (sOps gEq (b2 (sVal (sOps gIdx (b2 (sLoc 0) (sVal (sCst (.int 0)))))) (sVal (sCst (.str "plus")))))) (sTst (sOps gEq (b2 (sVal (sOps gIdx (b2 (sLoc 0) (sVal (sCst (.int 0)))))) (sVal (sCst (.str "minus"))))))) (sRet (sOps gAdd (b2 (sVal (sOps gAdd (b2 (sVal (sIf (sTst (sOps gEq (b2 (sVal (sOps gIdx (b2 (sLoc 0) (sVal (sCst (.int 0)))))) (sVal (sCst (.str "plus")))))) (sCst (.str "(+")) (sCst (.str "(-")))) (sVal (sCallP 1 self (sCons (sOps gIdx (b2 (sLoc 0) (sVal (sCst (.int 1))))) sNil)))))) (sVal (sCst (.str ")")))))) sNx)
  (sSeq (sIfS (sTst (sOps gIn (b2 (sVal (sOps gIdx (b2 (sLoc 0) (sVal (sCst (.int 0)))))) (sVal (sCst (.arg [.str "update", .str "subtract"])))))) (sRet (sOps gAdd (b2 (sVal (sOps gAdd (b2 (sVal (sOps gAdd (b2 (sVal (sOps gAdd (b2 (sVal (sOps gAdd (b2 (sVal (sOps gIdx (b2 (sLoc 0) (sVal (sCst (.int 0)))))) (sVal (sCst (.str "(")))))) (sVal (sCallP 1 self (sCons (sOps gIdx (b2 (sLoc 0) (sVal (sCst (.int 1))))) sNil)))))) (sVal (sCst (.str ", ")))))) (sVal (sCallP 1 self (sCons (sOps gIdx (b2 (sLoc 0) (sVal (sCst (.int 2))))) sNil)))))) (sVal (sCst (.str ")")))))) sNx)
  (sRet (sOps gAdd (b2 (sVal (sOps gAdd (b2 (sVal (sOps gAdd (b2 (sVal (sOps gAdd (b2 (sVal (sOps gAdd (b2 (sVal (sOps gAdd (b2 (sVal (sCst (.str "("))) (sVal (sCallP 1 self (sCons (sOps gIdx (b2 (sLoc 0) (sVal (sCst (.int 1))))) sNil)))))) (sVal (sCst (.str " ")))))) (sVal (sCallP 1 (m_sign_of) (sCons (sOps gIdx (b2 (sLoc 0) (sVal (sCst (.int 0))))) sNil)))))) (sVal (sCst (.str " ")))))) (sVal (sCallP 1 self (sCons (sOps gIdx (b2 (sLoc 0) (sVal (sCst (.int 2))))) sNil)))))) (sVal (sCst (.str ")")))))))))
def m_text_of : Nat → List D → FR
  | 0 => fun _ => .stuck
  | n + 1 => runP 1 1 (b_text_of (m_text_of n))
abbrev st_expression_text : Stmt := top 39
theorem sc_expression_text : FnScope ["expression"] ["expression"] (defScope st_expression_text) := ⟨rfl, rfl, rfl, by decide +kernel, rfl, by decide +kernel, by decide +kernel⟩
def b_expression_text : SS := (sSeq (sExpr (sCallS (m_looked_expressions) (sCons (sVar 0) sNil)))
  (sRet (sCallP 1 (m_text_of 40) (sCons (sVar 0) sNil))))
def m_expression_text : List D → FR := runP 1 1 b_expression_text
abbrev st_names_used : Stmt := top 30
theorem sc_names_used : FnScope ["script", "found", "name", "way", "expression"] ["script"] (defScope st_names_used) := ⟨rfl, rfl, rfl, by decide +kernel, rfl, by decide +kernel, by decide +kernel⟩
def t0_names_used : SS := (sSeq (sAsg (gPut 1 (sLoc 2)) (sCst (.bl true)))
  (sExpr (sDUpd 1 (sCallP 1 (m_names_in 40) (sCons (sVar 4) sNil)))))
def l0_names_used : SS := sFor (iAny (sVar 0)) (gTup' 3 (gC (gSet 2) (gC (gSet 3) (gC (gSet 4) gN)))) t0_names_used
def b_names_used : SS := (sSeq (sAsg (gOwn 1) (sCst (.dct [] [])))
  (sSeq l0_names_used
  (sRet (sOps gSortA (bCons (sVal (sOps gList (bCons (sLoc 1) bNil))) bNil)))))
def m_names_used : List D → FR := runP 5 1 b_names_used
abbrev st_is_step : Stmt := top 29
theorem sc_is_step : FnScope ["thing"] ["thing"] (defScope st_is_step) := ⟨rfl, rfl, rfl, by decide +kernel, rfl, by decide +kernel, by decide +kernel⟩
def b_is_step : SS := (sSeq (sIfS (tOrS (tNotS (sTru (sVal (sIsi ["tuple"] (sLoc 0))))) (tOrS (sTst (sOps gNe (b2 (sVal (sOps gLen (bCons (sLoc 0) bNil))) (sVal (sCst (.int 3)))))) (tOrS (tNotS (sTru (sVal (sCallP 1 (m_is_name) (sCons (sOps gIdx (b2 (sLoc 0) (sVal (sCst (.int 0))))) sNil))))) (tNotS (sTru (sVal (sIsi ["str"] (sVal (sOps gIdx (b2 (sLoc 0) (sVal (sCst (.int 1))))))))))))) (sRet (sCst (.bl false))) sNx)
  (sRet (sAnd (sOr (sOps gEq (b2 (sVal (sOps gIdx (b2 (sLoc 0) (sVal (sCst (.int 1)))))) (sVal (sCst (.str "set"))))) (sOps gIn (b2 (sVal (sOps gIdx (b2 (sLoc 0) (sVal (sCst (.int 1)))))) (sVal (sCst (.arg [.str "add", .str "less", .str "most", .str "least", .str "update", .str "subtract"])))))) (sCallP 1 (m_is_expression) (sCons (sOps gIdx (b2 (sLoc 0) (sVal (sCst (.int 2))))) sNil)))))
def m_is_step : List D → FR := runP 1 1 b_is_step
abbrev st_is_script : Stmt := top 31
theorem sc_is_script : FnScope ["thing", "part"] ["thing"] (defScope st_is_script) := ⟨rfl, rfl, rfl, by decide +kernel, rfl, by decide +kernel, by decide +kernel⟩
def c0_is_script : SE := sComp [1] (iAny (sVar 0)) (gSet 1) tT1 (sCallP 1 (m_is_step) (sCons (sVar 1) sNil))
def c1_is_script : SE := sComp [1] (iAny (sVar 0)) (gSet 1) tT1 (sCallP 1 (m_size_of 40) (sCons (sOps gIdx (b2 (sLoc 1) (sVal (sCst (.int 2))))) sNil))
def b_is_script : SS := (sSeq (sIfS (tOrS (tNotS (sTru (sVal (sIsi ["tuple"] (sLoc 0))))) (tOrS (sTst (sOps gGt (b2 (sVal (sOps gLen (bCons (sLoc 0) bNil))) (sVal (sCst (.int 6)))))) (tNotS (sTru (sVal (sOps gAll (bCons (sVal c0_is_script) bNil))))))) (sRet (sCst (.bl false))) sNx)
  (sSeq (sIfS (sTst (sOps gGt (b2 (sVal (sOps gSum (bCons (sVal c1_is_script) bNil))) (sVal (sCst (.int 12)))))) (sRet (sCst (.bl false))) sNx)
  (sRet (sOps gLe (b2 (sVal (sOps gLen (bCons (sVal (sCallP 1 (m_names_used) (sCons (sVar 0) sNil))) bNil))) (sVal (sCst (.int 3))))))))
def m_is_script : List D → FR := runP 2 1 b_is_script
abbrev st_looked_scripts : Stmt := top 32
theorem sc_looked_scripts : FnScope ["scripts", "script"] ["scripts"] (defScope st_looked_scripts) := ⟨rfl, rfl, rfl, by decide +kernel, rfl, by decide +kernel, by decide +kernel⟩
def t0_looked_scripts : SS := (sIfS (tNotS (sTru (sVal (sCallP 1 (m_is_script) (sCons (sVar 1) sNil))))) (sRaise "NoScript") sNx)
def l0_looked_scripts : SS := sFor (iAny (sVar 0)) (gSet 1) t0_looked_scripts
def b_looked_scripts : SS := l0_looked_scripts
def m_looked_scripts : List D → FR := runP 2 1 b_looked_scripts
abbrev st_line_of : Stmt := top 40
theorem sc_line_of : FnScope ["step", "name", "way", "expression"] ["step"] (defScope st_line_of) := ⟨rfl, rfl, rfl, by decide +kernel, rfl, by decide +kernel, by decide +kernel⟩
def b_line_of : SS := (sSeq (sAsg (gTup' 3 (gC (gSet 1) (gC (gSet 2) (gC (gSet 3) gN)))) (sVar 0))
  (sSeq (sIfS (sTst (sOps gEq (b2 (sLoc 2) (sVal (sCst (.str "set")))))) (sRet (sOps gAdd (b2 (sVal (sOps gAdd (b2 (sLoc 1) (sVal (sCst (.str " = ")))))) (sVal (sCallP 1 (m_text_of 40) (sCons (sVar 3) sNil)))))) sNx)
  (sSeq (sIfS (sTst (sOps gIn (b2 (sLoc 2) (sVal (sCst (.arg [.str "update", .str "subtract"])))))) (sRet (sOps gAdd (b2 (sVal (sOps gAdd (b2 (sVal (sOps gAdd (b2 (sVal (sOps gAdd (b2 (sVal (sOps gAdd (b2 (sLoc 1) (sVal (sCst (.str ".")))))) (sLoc 2)))) (sVal (sCst (.str "(")))))) (sVal (sCallP 1 (m_text_of 40) (sCons (sVar 3) sNil)))))) (sVal (sCst (.str ")")))))) sNx)
  (sRet (sOps gAdd (b2 (sVal (sOps gAdd (b2 (sVal (sOps gAdd (b2 (sVal (sOps gAdd (b2 (sLoc 1) (sVal (sCst (.str " ")))))) (sVal (sCallP 1 (m_sign_of) (sCons (sVar 2) sNil)))))) (sVal (sCst (.str "= ")))))) (sVal (sCallP 1 (m_text_of 40) (sCons (sVar 3) sNil)))))))))
def m_line_of : List D → FR := runP 4 1 b_line_of
abbrev st_script_text : Stmt := top 41
theorem sc_script_text : FnScope ["script", "step"] ["script"] (defScope st_script_text) := ⟨rfl, rfl, rfl, by decide +kernel, rfl, by decide +kernel, by decide +kernel⟩
def c0_script_text : SE := sComp [1] (iAny (sVar 0)) (gSet 1) tT1 (sCallP 1 (m_line_of) (sCons (sVar 1) sNil))
def b_script_text : SS := (sSeq (sExpr (sCallS (m_looked_scripts) (sCons (sVar 0) sNil)))
  (sRet (sJoin (sCst (.str "\n")) c0_script_text)))
def m_script_text : List D → FR := runP 2 1 b_script_text
abbrev st_parted : Stmt := top 42
theorem sc_parted : FnScope ["text", "sign", "at", "found", "deep"] ["text", "sign"] (defScope st_parted) := ⟨rfl, rfl, rfl, by decide +kernel, rfl, by decide +kernel, by decide +kernel⟩
def i0_parted : SS := sIfS (sTst (sOps gEq (b2 (sVal (sOps gIdx (b2 (sLoc 0) (sLoc 2)))) (sVal (sCst (.str "(")))))) (sAugI (fun i j => i + j) 4 (sCst (.int 1))) (sIfS (sTst (sOps gEq (b2 (sVal (sOps gIdx (b2 (sLoc 0) (sLoc 2)))) (sVal (sCst (.str ")")))))) (sAugI (fun i j => i - j) 4 (sCst (.int 1))) (sIfS (tAndS (sTst (sOps gEq (b2 (sLoc 4) (sVal (sCst (.int 0)))))) (sTst (sOps gEq (b2 (sVal (sSlice (sLoc 0) (sPe (sVar 2)) (sPe (sOps gAdd (b2 (sLoc 2) (sVal (sOps gLen (bCons (sLoc 1) bNil)))))))) (sLoc 1))))) (sExpr (sMut 3 mAppend (sCons (sVar 2) sNil))) sNx))
def t0_parted : SS := i0_parted
def l0_parted : SS := sFor (iRng1' (sCons (sOps gLen (bCons (sLoc 0) bNil)) sNil)) (gSet 2) t0_parted
def b_parted : SS := (sSeq (sParF 3 4 (sLst sNil) (sCst (.int 0)))
  (sSeq l0_parted
  (sRet (sVar 3))))
def m_parted : List D → FR := runP 5 2 b_parted
abbrev st_read : Stmt := top 43
theorem sc_read : FnScope ["text", "deep", "word", "inner", "sign", "places"] ["text", "deep"] (defScope st_read) := ⟨rfl, rfl, rfl, by decide +kernel, rfl, by decide +kernel, by decide +kernel⟩
def u0_read (self : List D → FR) : SS := (sSeq (sAsg (gSet 3) (sSlice (sLoc 0) (sPe (sOps gAdd (b2 (sVal (sOps gLen (bCons (sLoc 2) bNil))) (sVal (sCst (.int 1)))))) (sPe (sOps gNeg (b1 (sVal (sCst (.int 1))))))))
  (sSeq (sAsg (gSet 5) (sCallP 2 (m_parted) (sCons (sVar 3) (sCons (sCst (.str ", ")) sNil))))
  (sSeq (sIfS (sTst (sOps gEq (b2 (sVal (sOps gLen (bCons (sLoc 5) bNil))) (sVal (sCst (.int 1)))))) (sRet (sTup (sCons (sVar 2) (sCons (sCallP 2 self (sCons (sSlice (sLoc 3) sPn (sPe (sOps gIdx (b2 (sLoc 5) (sVal (sCst (.int 0))))))) (sCons (sOps gAdd (b2 (sLoc 1) (sVal (sCst (.int 1))))) sNil))) (sCons (sCallP 2 self (sCons (sSlice (sLoc 3) (sPe (sOps gAdd (b2 (sVal (sOps gIdx (b2 (sLoc 5) (sVal (sCst (.int 0)))))) (sVal (sCst (.int 2)))))) sPn) (sCons (sOps gAdd (b2 (sLoc 1) (sVal (sCst (.int 1))))) sNil))) sNil))))) sNx)
  (sRet (sCst .non)))))
def t0_read (self : List D → FR) : SS := (sIfS (tAndS (sTru (sVal (sM1 gStarts (sVar 0) (sOps gAdd (b2 (sLoc 2) (sVal (sCst (.str "(")))))))) (sTru (sVal (sM1 gEnds (sVar 0) (sCst (.str ")")))))) (u0_read self) sNx)
def l0_read (self : List D → FR) : SS := sFor (iAny (sCst (.arg [.str "update", .str "subtract"]))) (gSet 2) (t0_read self)
def t1_read (self : List D → FR) : SS := (sSeq (sAsg (gSet 5) (sCallP 2 (m_parted) (sCons (sVar 3) (sCons (sOps gAdd (b2 (sVal (sOps gAdd (b2 (sVal (sCst (.str " "))) (sLoc 4)))) (sVal (sCst (.str " "))))) sNil))))
  (sIfS (sTst (sOps gEq (b2 (sVal (sOps gLen (bCons (sLoc 5) bNil))) (sVal (sCst (.int 1)))))) (sRet (sTup (sCons (sVar 2) (sCons (sCallP 2 self (sCons (sSlice (sLoc 3) sPn (sPe (sOps gIdx (b2 (sLoc 5) (sVal (sCst (.int 0))))))) (sCons (sOps gAdd (b2 (sLoc 1) (sVal (sCst (.int 1))))) sNil))) (sCons (sCallP 2 self (sCons (sSlice (sLoc 3) (sPe (sOps gAdd (b2 (sVal (sOps gIdx (b2 (sLoc 5) (sVal (sCst (.int 0)))))) (sVal (sCst (.int 3)))))) sPn) (sCons (sOps gAdd (b2 (sLoc 1) (sVal (sCst (.int 1))))) sNil))) sNil))))) sNx))
def l1_read (self : List D → FR) : SS := sFor (iAny (sCst (.arg (([("add", "+"), ("less", "-"), ("most", "|"), ("least", "&")] : List (Str × Str)).map pairA)))) (gTup' 2 (gC (gSet 2) (gC (gSet 4) gN))) (t1_read self)
def b_read (self : List D → FR) : SS := (sSeq (sIfS (sTst (sOps gGt (b2 (sLoc 1) (sVal (sCst (.int 12)))))) (sRet (sCst .non)) sNx)
  (sSeq (l0_read self)
  (sSeq (sIfS (tOrS (tNotS (sTru (sVal (sM1 gStarts (sVar 0) (sCst (.str "(")))))) (tNotS (sTru (sVal (sM1 gEnds (sVar 0) (sCst (.str ")"))))))) (sRet (sTup (sCons (sCst (.str "get")) (sCons (sVar 0) sNil)))) sNx)
  (sSeq (sAsg (gSet 3) (sSlice (sLoc 0) (sPe (sCst (.int 1))) (sPe (sOps gNeg (b1 (sVal (sCst (.int 1))))))))
  (sSeq (l1_read self)
  (sSeq (sIfS (sTst (sOps gIn (b2 (sVal (sSlice (sLoc 3) sPn (sPe (sCst (.int 1))))) (sVal (sTup (sCons (sCst (.str "+")) (sCons (sCst (.str "-")) sNil))))))) (sRet (sTup (sCons (sIf (sTst (sOps gEq (b2 (sVal (sOps gIdx (b2 (sLoc 3) (sVal (sCst (.int 0)))))) (sVal (sCst (.str "+")))))) (sCst (.str "plus")) (sCst (.str "minus"))) (sCons (sCallP 2 self (sCons (sSlice (sLoc 3) (sPe (sCst (.int 1))) sPn) (sCons (sOps gAdd (b2 (sLoc 1) (sVal (sCst (.int 1))))) sNil))) sNil)))) sNx)
  (sRet (sCst .non))))))))
def m_read : Nat → List D → FR
  | 0 => fun _ => .stuck
  | n + 1 => runP 6 2 (b_read (m_read n))
abbrev st_read_expression : Stmt := top 44
theorem sc_read_expression : FnScope ["text", "found"] ["text"] (defScope st_read_expression) := ⟨rfl, rfl, rfl, by decide +kernel, rfl, by decide +kernel, by decide +kernel⟩
def b_read_expression : SS := (sSeq (sIfS (tNotS (sTru (sVal (sIsi ["str"] (sLoc 0))))) (sRaise "NoText") sNx)
  (sSeq (sAsg (gSet 1) (sCallP 2 (m_read 40) (sCons (sVar 0) (sCons (sCst (.int 1)) sNil))))
  (sSeq (sIfS (tOrS (tNotS (sTru (sVal (sCallP 1 (m_is_expression) (sCons (sVar 1) sNil))))) (sTst (sOps gNe (b2 (sVal (sCallP 1 (m_text_of 40) (sCons (sVar 1) sNil))) (sLoc 0))))) (sRaise "NoText") sNx)
  (sRet (sVar 1)))))
def m_read_expression : List D → FR := runP 2 1 b_read_expression
abbrev st_read_line : Stmt := top 45
theorem sc_read_line : FnScope ["line", "way", "name", "sign", "rest", "mark", "opened"] ["line"] (defScope st_read_line) := ⟨rfl, rfl, rfl, by decide +kernel, rfl, by decide +kernel, by decide +kernel⟩
def t0_read_line : SS := (sSeq (sAsg (gTup' 3 (gC (gSet 2) (gC (gSet 6) (gC (gSet 4) gN)))) (sM1 gPart (sVar 0) (sOps gAdd (b2 (sVal (sOps gAdd (b2 (sVal (sCst (.str "."))) (sLoc 1)))) (sVal (sCst (.str "(")))))))
  (sIfS (tAndS (sTst (sOps gNe (b2 (sLoc 6) (sVal (sCst (.str "")))))) (sTru (sVal (sM1 gEnds (sVar 4) (sCst (.str ")")))))) (sRet (sTup (sCons (sVar 2) (sCons (sVar 1) (sCons (sCallP 2 (m_read 40) (sCons (sSlice (sLoc 4) sPn (sPe (sOps gNeg (b1 (sVal (sCst (.int 1))))))) (sCons (sCst (.int 1)) sNil))) sNil))))) sNx))
def l0_read_line : SS := sFor (iAny (sCst (.arg [.str "update", .str "subtract"]))) (gSet 1) t0_read_line
def t1_read_line : SS := (sSeq (sAsg (gTup' 3 (gC (gSet 2) (gC (gSet 3) (gC (gSet 4) gN)))) (sM1 gPart (sVar 0) (sOps gAdd (b2 (sVal (sOps gAdd (b2 (sVal (sCst (.str " "))) (sLoc 5)))) (sVal (sCst (.str "= ")))))))
  (sIfS (sTst (sOps gNe (b2 (sLoc 3) (sVal (sCst (.str "")))))) (sRet (sTup (sCons (sVar 2) (sCons (sVar 1) (sCons (sCallP 2 (m_read 40) (sCons (sVar 4) (sCons (sCst (.int 1)) sNil))) sNil))))) sNx))
def l1_read_line : SS := sFor (iAny (sCst (.arg (([("add", "+"), ("less", "-"), ("most", "|"), ("least", "&")] : List (Str × Str)).map pairA)))) (gTup' 2 (gC (gSet 1) (gC (gSet 5) gN))) t1_read_line
def b_read_line : SS := (sSeq l0_read_line
  (sSeq (sAsg (gTup' 3 (gC (gSet 2) (gC (gSet 3) (gC (gSet 4) gN)))) (sM1 gPart (sVar 0) (sCst (.str " = "))))
  (sSeq (sIfS (sTst (sOps gNe (b2 (sLoc 3) (sVal (sCst (.str "")))))) (sRet (sTup (sCons (sVar 2) (sCons (sCst (.str "set")) (sCons (sCallP 2 (m_read 40) (sCons (sVar 4) (sCons (sCst (.int 1)) sNil))) sNil))))) sNx)
  (sSeq l1_read_line
  (sRet (sCst .non))))))
def m_read_line : List D → FR := runP 7 1 b_read_line
abbrev st_read_script : Stmt := top 46
theorem sc_read_script : FnScope ["text", "found", "line", "step"] ["text"] (defScope st_read_script) := ⟨rfl, rfl, rfl, by decide +kernel, rfl, by decide +kernel, by decide +kernel⟩
def c0_read_script : SE := sComp [2] (iAny (sM1 gSplit (sVar 0) (sCst (.str "\n")))) (gSet 2) tT1 (sCallP 1 (m_read_line) (sCons (sVar 2) sNil))
def c1_read_script : SE := sComp [3] (iAny (sVar 1)) (gSet 3) tT1 (sCallP 1 (m_line_of) (sCons (sVar 3) sNil))
def b_read_script : SS := (sSeq (sIfS (tNotS (sTru (sVal (sIsi ["str"] (sLoc 0))))) (sRaise "NoText") sNx)
  (sSeq (sAsg (gSet 1) (sIf (sTst (sOps gEq (b2 (sLoc 0) (sVal (sCst (.str "")))))) (sTup sNil) (sOps gTuple (bCons (sVal c0_read_script) bNil))))
  (sSeq (sIfS (tOrS (tNotS (sTru (sVal (sCallP 1 (m_is_script) (sCons (sVar 1) sNil))))) (sTst (sOps gNe (b2 (sVal (sJoin (sCst (.str "\n")) c1_read_script)) (sLoc 0))))) (sRaise "NoText") sNx)
  (sRet (sVar 1)))))
def m_read_script : List D → FR := runP 4 1 b_read_script
abbrev st_law : Stmt := top 57
theorem sc_law : FnScope ["_law_script_here", "_law_tape", "_law_turn", "_law_wrong", "_law_names", "_law_change", "_law_odd", "_law_e", "_law_some", "_law_text", "_law_told"] ["_law_script_here"] (defScope st_law) := ⟨rfl, rfl, rfl, by decide +kernel, rfl, by decide +kernel, by decide +kernel⟩
def e0_law : SE := (sCallP 1 (m_read_expression) (sCons (sVar 9) sNil))
def i0_law : SS := sIfS (sTru (sVal (sIsi ["tuple"] (sLoc 10)))) (sIfS (tOrS (sTst (sOps gIsNot (b2 (sVal (sCallP 1 (m_is_expression) (sCons (sVar 10) sNil))) (sVal (sCst (.bl true)))))) (sTst (sOps gNe (b2 (sVal (sCallP 1 (m_expression_text) (sCons (sVar 10) sNil))) (sLoc 9))))) (sRet (sCst (.bl false))) sNx) (sIfS (tOrS (sTst (sOps gNe (b2 (sLoc 10) (sVal (sCst (.str "text")))))) (sTst (sOps gEq (b2 (sLoc 9) (sVal (sCallP 1 (m_expression_text) (sCons (sVar 7) sNil))))))) (sRet (sCst (.bl false))) sNx)
def e1_law : SE := (sCallP 1 (m_read_script) (sCons (sVar 9) sNil))
def i1_law : SS := sIfS (sTru (sVal (sIsi ["tuple"] (sLoc 10)))) (sIfS (tOrS (sTst (sOps gIsNot (b2 (sVal (sCallP 1 (m_is_script) (sCons (sVar 10) sNil))) (sVal (sCst (.bl true)))))) (sTst (sOps gNe (b2 (sVal (sCallP 1 (m_script_text) (sCons (sVar 10) sNil))) (sLoc 9))))) (sRet (sCst (.bl false))) sNx) (sIfS (sTst (sOps gNe (b2 (sLoc 10) (sVal (sCst (.str "text")))))) (sRet (sCst (.bl false))) sNx)
def t0_law : SS := (sSeq (sAsg (gSet 9) (sCallI 1 2 (m_L_bent) (sCons (sCallP 1 (m_expression_text) (sCons (sVar 7) sNil)) sNil)))
  (sSeq (sAsg (gSet 10) (sTried wdX e0_law))
  (sSeq i0_law
  (sSeq (sAsg (gSet 9) (sCallI 1 2 (m_L_bent) (sCons (sCallP 1 (m_script_text) (sCons (sVar 8) sNil)) sNil)))
  (sSeq (sAsg (gSet 10) (sTried wdX e1_law))
  i1_law)))))
def l0_law : SS := sFor (iRng1' (sCons (sCst (.int 8)) sNil)) (gSet 5) t0_law
def e2_law : SE := (sCallP 1 (m_read_expression) (sCons (sVar 6) sNil))
def e3_law : SE := (sCallP 1 (m_read_script) (sCons (sVar 6) sNil))
def t1_law : SS := (sSeq (sIfS (sTst (sOps gNe (b2 (sVal (sTried wdX e2_law)) (sVal (sCst (.str "text")))))) (sRet (sCst (.bl false))) sNx)
  (sIfS (sTst (sOps gNe (b2 (sVal (sTried wdX e3_law)) (sVal (sCst (.str "text")))))) (sRet (sCst (.bl false))) sNx))
def l1_law : SS := sFor (iAny (sLst (sCons (sCst .non) (sCons (sCst (.int 5)) (sCons (sLst (sCons (sCst (.str "a")) sNil)) (sCons (sVar 7) (sCons (sCst (.bl true)) sNil))))))) (gSet 6) t1_law
def t2_law : SS := (sSeq (sAsg (gOwn 4) (sLst (sCons (sCst (.str "a")) (sCons (sCst (.str "b")) (sCons (sCst (.str "c")) sNil)))))
  (sSeq (sPar 7 8 (sCons (sCallI 1 3 (m_L_sum 40) (sCons (sVar 4) (sCons (sOps gAdd (b2 (sVal (sCst (.int 1))) (sVal (sCallI 1 2 (m_L_draw) (sCons (sCst (.int 10)) sNil))))) sNil))) (sCons (sCallI 1 3 (m_L_script) (sCons (sVar 4) (sCons (sCst (.int 4)) sNil))) sNil)))
  (sSeq l0_law
  l1_law)))
def l2_law : SS := sFor (iRng1' (sCons (sCst (.int 12)) sNil)) (gSet 2) t2_law
def e4_law : SE := (sCallP 1 (m_read_expression) (sCons (sVar 9) sNil))
def c0_law : SE := sComp [9] (iAny (sVar 3)) (gSet 9) (sTst (sOps gNe (b2 (sVal (sTried wdX e4_law)) (sVal (sCst (.str "text")))))) (sVar 9)
def e5_law : SE := (sCallP 1 (m_read_script) (sCons (sVar 9) sNil))
def c1_law : SE := sComp [9] (iAny (sVar 3)) (gSet 9) (sTst (sOps gNe (b2 (sVal (sTried wdX e5_law)) (sVal (sCst (.str "text")))))) (sVar 9)
def b_law : SS := (sSeq (sAsg (gOwn 1) (sLst (sCons (sOps gList (bCons (sLoc 0) bNil)) (sCons (sCst (.int 0)) (sCons (sCst (.int 0)) sNil)))))
  (sSeq l2_law
  (sSeq (sAsg (gOwn 3) (sLst (sCons (sCst (.str "")) (sCons (sCst (.str "A")) (sCons (sCst (.str "a + b")) (sCons (sCst (.str "(a+b)")) (sCons (sCst (.str "(a + b) ")) (sCons (sCst (.str "(a + b")) (sCons (sCst (.str "((a))")) (sCons (sCst (.str "(+ a)")) (sCons (sCst (.str "update(a,b)")) (sCons (sCst (.str "update(a)")) sNil))))))))))))
  (sSeq (sExpr (sMut 3 mAppend (sCons (sCst (.str "(a + b + c)")) sNil)))
  (sSeq (sIfS (sTst (sOps gNe (b2 (sVal c0_law) (sVal (sLst sNil))))) (sRet (sCst (.bl false))) sNx)
  (sSeq (sAsg (gOwn 3) (sLst (sCons (sCst (.str "a")) (sCons (sCst (.str "a=b")) (sCons (sCst (.str "a += ")) (sCons (sCst (.str "a.update b")) (sCons (sCst (.str "a.plus(b)")) (sCons (sCst (.str "a = b\n")) (sCons (sCst (.str "\n")) (sCons (sCst (.str "a ^= b")) (sCons (sCst (.str "a == b")) sNil)))))))))))
  (sRet (sOps gEq (b2 (sVal c1_law) (sVal (sLst sNil)))))))))))
def m_law : List D → FR := runP 11 1 b_law
abbrev st_L_tried : Stmt := top 52
theorem sc_L_tried : FnScope ["_law_call", "_law_e"] ["_law_call"] (defScope st_L_tried) := ⟨rfl, rfl, rfl, by decide +kernel, rfl, by decide +kernel, by decide +kernel⟩
abbrev st_L_word : Stmt := top 53
theorem sc_L_word : FnScope ["_law_e", "_law_some", "_law_named", "_law_word_here", "_law_there"] ["_law_e"] (defScope st_L_word) := ⟨rfl, rfl, rfl, by decide +kernel, rfl, by decide +kernel, by decide +kernel⟩
def c0_L_word : SE := sComp [3, 4] (iZipL (sCons (sVar 2) (sCons (sVar 1) sNil))) (gTupA 2 (gC (gSet 3) (gC (gSet 4) gN))) (sTru (sLoc 4)) (sVar 3)
def b_L_word (a : Addr) (x0 x1 x2 x3 x4 x5 x6 x7 x8 x9 : Bool) : SS := (sSeq (sAsg (gOwn 1) (sLst (sCons (sIsE 0 a x0) (sCons (sIsE 0 a x1) (sCons (sIsE 0 a x2) (sCons (sIsE 0 a x3) sNil))))))
  (sSeq (sAsg (gSet 1) (sOps gAdd (b2 (sLoc 1) (sVal (sLst (sCons (sIsE 0 a x4) (sCons (sIsE 0 a x5) (sCons (sIsE 0 a x6) (sCons (sIsE 0 a x7) sNil)))))))))
  (sSeq (sAsg (gSet 1) (sOps gAdd (b2 (sLoc 1) (sVal (sLst (sCons (sIsE 0 a x8) (sCons (sIsE 0 a x9) sNil)))))))
  (sSeq (sAsg (gOwn 2) (sLst (sCons (sCst (.str "counter")) (sCons (sCst (.str "counters")) (sCons (sCst (.str "expression")) (sCons (sCst (.str "script")) (sCons (sCst (.str "system")) (sCons (sCst (.str "name")) (sCons (sCst (.str "number")) (sCons (sCst (.str "way")) (sCons (sCst (.str "text")) (sCons (sCst (.str "many")) sNil))))))))))))
  (sRet (sJoin (sCst (.str "")) c0_L_word))))))
/-- of which of the classes it is one -/
structure BsK (K : PySem.W.Frag) (C c0 c1 c2 c3 c4 c5 c6 c7 c8 c9 : Addr) (x0 x1 x2 x3 x4 x5 x6 x7 x8 x9 : Bool) : Prop where
  k0 : PySem.W.kitOne K (.ref C) (.ref c0) = some x0
  k1 : PySem.W.kitOne K (.ref C) (.ref c1) = some x1
  k2 : PySem.W.kitOne K (.ref C) (.ref c2) = some x2
  k3 : PySem.W.kitOne K (.ref C) (.ref c3) = some x3
  k4 : PySem.W.kitOne K (.ref C) (.ref c4) = some x4
  k5 : PySem.W.kitOne K (.ref C) (.ref c5) = some x5
  k6 : PySem.W.kitOne K (.ref C) (.ref c6) = some x6
  k7 : PySem.W.kitOne K (.ref C) (.ref c7) = some x7
  k8 : PySem.W.kitOne K (.ref C) (.ref c8) = some x8
  k9 : PySem.W.kitOne K (.ref C) (.ref c9) = some x9
def GoodW (K : PySem.W.Frag) : Addr → Str → Prop := fun C wd => ExcC K C ∧ ∃ x0 x1 x2 x3 x4 x5 x6 x7 x8 x9, BsK K C (exA K "NoCounter") (exA K "NoCounters") (exA K "NoExpression") (exA K "NoScript") (exA K "NoSystem") (exA K "NoName") (exA K "NoNumber") (exA K "NoWay") (exA K "NoText") (exA K "TooMany") x0 x1 x2 x3 x4 x5 x6 x7 x8 x9 ∧ ∀ a, ∃ ρ', b_L_word a x0 x1 x2 x3 x4 x5 x6 x7 x8 x9 (.fro (.exn a) :: List.replicate 4 .no) = .ok (.rt (.str wd)) ρ'
structure Tx (K : PySem.W.Frag) (mg : Str → Option Value) : Prop where
  n_all : mg "all" = none
  n_dict : mg "dict" = none
  n_int : mg "int" = none
  n_isinstance : mg "isinstance" = none
  n_len : mg "len" = none
  n_list : mg "list" = none
  n_range : mg "range" = none
  n_sorted : mg "sorted" = none
  n_str : mg "str" = none
  n_sum : mg "sum" = none
  n_tuple : mg "tuple" = none
  n_zip : mg "zip" = none
  c_CALLS : ∃ a, mg "CALLS" = some (.ref a) ∧ ∀ F : Hp, SqT K F a [.str "update", .str "subtract"]
  c_LETTERS : ∃ u, mg "LETTERS" = some u ∧ RelV (.str "abcdefghijklmnopqrstuvwxyz") u
  c_MOST_NAMES : ∃ u, mg "MOST_NAMES" = some u ∧ RelV (.int 3) u
  c_MOST_NODES : ∃ u, mg "MOST_NODES" = some u ∧ RelV (.int 12) u
  c_MOST_STEPS : ∃ u, mg "MOST_STEPS" = some u ∧ RelV (.int 6) u
  c_PAIRS : ∃ a, mg "PAIRS" = some (.ref a) ∧ ∀ F : Hp, SqT K F a [.str "add", .str "less", .str "most", .str "least", .str "update", .str "subtract"]
  c_SET : ∃ u, mg "SET" = some u ∧ RelV (.str "set") u
  c_SIGNS : PairsC K mg "SIGNS" ([("add", "+"), ("less", "-"), ("most", "|"), ("least", "&")] : List (Str × Str))
  c_SINGLES : ∃ a, mg "SINGLES" = some (.ref a) ∧ ∀ F : Hp, SqT K F a [.str "plus", .str "minus"]
  m_NoCounter : mg "NoCounter" = some (.ref (exA K "NoCounter"))
  m_NoCounters : mg "NoCounters" = some (.ref (exA K "NoCounters"))
  m_NoExpression : mg "NoExpression" = some (.ref (exA K "NoExpression"))
  m_NoScript : mg "NoScript" = some (.ref (exA K "NoScript"))
  m_NoSystem : mg "NoSystem" = some (.ref (exA K "NoSystem"))
  m_NoName : mg "NoName" = some (.ref (exA K "NoName"))
  m_NoNumber : mg "NoNumber" = some (.ref (exA K "NoNumber"))
  m_NoWay : mg "NoWay" = some (.ref (exA K "NoWay"))
  m_NoText : mg "NoText" = some (.ref (exA K "NoText"))
  m_TooMany : mg "TooMany" = some (.ref (exA K "TooMany"))
  m_CountError : mg "CountError" = some (.ref (exA K "CountError"))
  d_NoExpression : ExcD K (exA K "NoExpression") (exA K "CountError")
  b_NoExpression : BsK K (exA K "NoExpression") (exA K "NoCounter") (exA K "NoCounters") (exA K "NoExpression") (exA K "NoScript") (exA K "NoSystem") (exA K "NoName") (exA K "NoNumber") (exA K "NoWay") (exA K "NoText") (exA K "TooMany") false false true false false false false false false false
  d_NoScript : ExcD K (exA K "NoScript") (exA K "CountError")
  b_NoScript : BsK K (exA K "NoScript") (exA K "NoCounter") (exA K "NoCounters") (exA K "NoExpression") (exA K "NoScript") (exA K "NoSystem") (exA K "NoName") (exA K "NoNumber") (exA K "NoWay") (exA K "NoText") (exA K "TooMany") false false false true false false false false false false
  d_NoText : ExcD K (exA K "NoText") (exA K "CountError")
  b_NoText : BsK K (exA K "NoText") (exA K "NoCounter") (exA K "NoCounters") (exA K "NoExpression") (exA K "NoScript") (exA K "NoSystem") (exA K "NoName") (exA K "NoNumber") (exA K "NoWay") (exA K "NoText") (exA K "TooMany") false false false false false false false false true false
theorem Tx.k_NoExpression {K : PySem.W.Frag} {mg : Str → Option Value} (T : Tx K mg) : ExcK K mg "NoExpression" := T.d_NoExpression.kk T.m_NoExpression
theorem Tx.k_NoScript {K : PySem.W.Frag} {mg : Str → Option Value} (T : Tx K mg) : ExcK K mg "NoScript" := T.d_NoScript.kk T.m_NoScript
theorem Tx.k_NoText {K : PySem.W.Frag} {mg : Str → Option Value} (T : Tx K mg) : ExcK K mg "NoText" := T.d_NoText.kk T.m_NoText
section
variable {P : Program} {w : World} {K : PySem.W.Frag} {mg : Str → Option Value} {base : Heap}
set_option maxRecDepth 100000 in
theorem w_L_word (T : Tx K mg) (F : Fn K mg "_law_word" st_L_word ["_law_e"]) : WordAt P w K mg base 1 "_law_word" (GoodW K) :=
  word_at (k := 0) (m := 4) (ea := exA K) (W := fun _ _ _ _ => False) F sc_L_word rfl fun f cd A outer s H p C wd hot0 hr hz ⟨cc, x0, x1, x2, x3, x4, x5, x6, x7, x8, x9, B, ev⟩ => by
    have hf : ∃ vs, p.2.data = .fields vs := let ⟨vs, e, _⟩ := hot0.2; ⟨vs, e⟩
    have hot : L2H.Hot1 (L2H.cxH CXf P w K mg base ["_law_e", "_law_some", "_law_named", "_law_word_here", "_law_there"] "_law_word" (defScope st_L_word) f cd A outer s H (fun _ _ _ => False) p).A p := hot0
    have hp : p ∈ (L2H.cxH CXf P w K mg base ["_law_e", "_law_some", "_law_named", "_law_word_here", "_law_there"] "_law_word" (defScope st_L_word) f cd A outer s H (fun _ _ _ => False) p).pn := List.mem_singleton.mpr rfl
    have hpp : (p.1, p.2) ∈ (L2H.cxH CXf P w K mg base ["_law_e", "_law_some", "_law_named", "_law_word_here", "_law_there"] "_law_word" (defScope st_L_word) f cd A outer s H (fun _ _ _ => False) p).pn := hp
    exact ⟨b_L_word p.1 x0 x1 x2 x3 x4 x5 x6 x7 x8 x9, (d_scons (d_setFN sc_L_word.nd rfl (by first | exact Or.inl rfl | exact Or.inr rfl) (d_lstF (d_cons (d_isE hpp cc hz hf rfl T.n_isinstance rfl T.m_NoCounter B.k0 (pv 0)) (d_cons (d_isE hpp cc hz hf rfl T.n_isinstance rfl T.m_NoCounters B.k1 (pv 0)) (d_cons (d_isE hpp cc hz hf rfl T.n_isinstance rfl T.m_NoExpression B.k2 (pv 0)) (d_cons (d_isE hpp cc hz hf rfl T.n_isinstance rfl T.m_NoScript B.k3 (pv 0)) d_nil))))))
      (d_scons (d_setN sc_L_word.nd rfl (by first | exact Or.inl rfl | exact Or.inr rfl) (d_add (d_loc (pv 1)) (d_val (d_fz (d_lstF (d_cons (d_isE hpp cc hz hf rfl T.n_isinstance rfl T.m_NoSystem B.k4 (pv 0)) (d_cons (d_isE hpp cc hz hf rfl T.n_isinstance rfl T.m_NoName B.k5 (pv 0)) (d_cons (d_isE hpp cc hz hf rfl T.n_isinstance rfl T.m_NoNumber B.k6 (pv 0)) (d_cons (d_isE hpp cc hz hf rfl T.n_isinstance rfl T.m_NoWay B.k7 (pv 0)) d_nil)))))))))
      (d_scons (d_setN sc_L_word.nd rfl (by first | exact Or.inl rfl | exact Or.inr rfl) (d_add (d_loc (pv 1)) (d_val (d_fz (d_lstF (d_cons (d_isE hpp cc hz hf rfl T.n_isinstance rfl T.m_NoText B.k8 (pv 0)) (d_cons (d_isE hpp cc hz hf rfl T.n_isinstance rfl T.m_TooMany B.k9 (pv 0)) d_nil)))))))
      (d_scons (d_setFN sc_L_word.nd rfl (by first | exact Or.inl rfl | exact Or.inr rfl) (d_lstF (d_cons d_str (d_cons d_str (d_cons d_str (d_cons d_str (d_cons d_str (d_cons d_str (d_cons d_str (d_cons d_str (d_cons d_str (d_cons d_str d_nil))))))))))))
      (d_sone (d_ret (d_join d_str (d_fz (d_compFB (own := [("_law_word_here", 3), ("_law_there", 4)]) hot hp sc_L_word.nd (d_iZipB (HotB.of hot hp) rfl T.n_zip (d_cons (d_var (pv 2)) (d_cons (d_var (pv 1)) d_nil))) (blkOk_by (N := ["_law_e", "_law_some", "_law_named", "_law_word_here", "_law_there"]) (sc := defScope st_L_word) (own := [("_law_word_here", 3), ("_law_there", 4)]) (by decide +kernel)) (fun _ _ _ _ _ hot => (d_gTupB hot (d_gC (d_gName sc_L_word.nd rfl (by first | exact Or.inl rfl | exact Or.inr rfl) (by first | exact Or.inl rfl | exact Or.inr rfl)) (d_gC (d_gName sc_L_word.nd rfl (by first | exact Or.inl rfl | exact Or.inr rfl) (by first | exact Or.inl rfl | exact Or.inr rfl)) d_gN)))) (fun _ _ _ _ _ => (pts_one (d_tru (d_loc (pv 4))))) (fun _ _ _ _ _ => (d_var (pv 3))) (by decide)))))))))), ev p.1⟩
theorem ev_NoExpression (a : Addr) : ∃ ρ', b_L_word a false false true false false false false false false false (.fro (.exn a) :: List.replicate 4 .no) = .ok (.rt (.str "expression")) ρ' := by
  refine ⟨?w, ?h⟩
  case h =>
    simp [b_L_word, sIsE, c0_L_word, List.replicate, sizeLine_eq, gAdd, ofO, zipL, pairUp, joinG, txtsD, gSet, gOwn, sComp, compGo, plainAt, wipeE, backE, noX, gC, gN, sTru, sLoc, Opd.get, Cell.data, D.truth, iZipL, gTupA, sCons, sVar, sNil]
    rw [if_pos (by decide)]
    rfl
theorem ev_NoScript (a : Addr) : ∃ ρ', b_L_word a false false false true false false false false false false (.fro (.exn a) :: List.replicate 4 .no) = .ok (.rt (.str "script")) ρ' := by
  refine ⟨?w, ?h⟩
  case h =>
    simp [b_L_word, sIsE, c0_L_word, List.replicate, sizeLine_eq, gAdd, ofO, zipL, pairUp, joinG, txtsD, gSet, gOwn, sComp, compGo, plainAt, wipeE, backE, noX, gC, gN, sTru, sLoc, Opd.get, Cell.data, D.truth, iZipL, gTupA, sCons, sVar, sNil]
    rw [if_pos (by decide)]
    rfl
theorem ev_NoText (a : Addr) : ∃ ρ', b_L_word a false false false false false false false false true false (.fro (.exn a) :: List.replicate 4 .no) = .ok (.rt (.str "text")) ρ' := by
  refine ⟨?w, ?h⟩
  case h =>
    simp [b_L_word, sIsE, c0_L_word, List.replicate, sizeLine_eq, gAdd, ofO, zipL, pairUp, joinG, txtsD, gSet, gOwn, sComp, compGo, plainAt, wipeE, backE, noX, gC, gN, sTru, sLoc, Opd.get, Cell.data, D.truth, iZipL, gTupA, sCons, sVar, sNil]
    rw [if_pos (by decide)]
    rfl
theorem hwd_ok (T : Tx K mg) : ∀ x d, wdX x = some d → x.arg = .non ∧ PySem.W.exmOne K (.ref (exA K x.cls)) (.ref (exA K "CountError")) = some true ∧ ∃ w, d = .str w ∧ GoodW K (exA K x.cls) w := fun ⟨c, a⟩ d h => by
  unfold wdX at h
  cases a with
  | non =>
    simp only at h
    by_cases h0 : c = "NoExpression"
    · subst h0; simp at h; subst h; exact ⟨rfl, T.d_NoExpression.exm, _, rfl, T.d_NoExpression.c, _, _, _, _, _, _, _, _, _, _, T.b_NoExpression, ev_NoExpression⟩
    rw [if_neg h0] at h
    by_cases h1 : c = "NoScript"
    · subst h1; simp at h; subst h; exact ⟨rfl, T.d_NoScript.exm, _, rfl, T.d_NoScript.c, _, _, _, _, _, _, _, _, _, _, T.b_NoScript, ev_NoScript⟩
    rw [if_neg h1] at h
    by_cases h2 : c = "NoText"
    · subst h2; simp at h; subst h; exact ⟨rfl, T.d_NoText.exm, _, rfl, T.d_NoText.c, _, _, _, _, _, _, _, _, _, _, T.b_NoText, ev_NoText⟩
    rw [if_neg h2] at h
    cases h
  | _ => cases h
theorem w_L_draw (T : Tx K mg) (F : Fn K mg "_law_draw" st_L_draw ["_law_tape", "_law_many"]) : Cal P w K mg base "_law_draw" 1 (spI ⟨K, ⟨exA K, []⟩⟩ 2 m_L_draw) :=
  cal_I (exA K) F sc_L_draw (by decide) fun f cdv A outer s H E hr => by
    have hu := at_def (P := P) (w := w) (K := K) (mg := mg) (base := base) (f := f) (cdv := cdv) (A := A) (outer := outer) (s := s) (H := H) (E := E) sc_L_draw hr
    exact (d_scons (d_set hu rfl (by first | exact Or.inl rfl | exact Or.inr rfl) d_int)
      (d_scons (d_ifS (d_tcmp op_ltA psem_ord (d_val (d_idx hu (d_loc (pv 0)) (d_val d_int))) (d_loc (pv 1)) (nomark _)) (d_scons (d_set hu rfl (by first | exact Or.inl rfl | exact Or.inr rfl) d_int)
      (d_scons (d_ifS (d_tcmp op_gtA psem_ord (d_val (d_callB call_lenA psem_len rfl T.n_len (d_bcons (d_val (d_idx hu (d_loc (pv 0)) (d_val d_int))) d_bnil))) (d_val d_int) (nomark _)) (d_sone (d_set hu rfl (by first | exact Or.inl rfl | exact Or.inr rfl) (d_idx hu (d_val (d_idx hu (d_loc (pv 0)) (d_val d_int))) (d_val (d_mod (d_val (d_callTy call_int1 psem_int rfl T.n_int (d_bcons (d_val (d_idx hu (d_loc (pv 0)) (d_val d_int))) d_bnil))) (d_val (d_callB call_lenA psem_len rfl T.n_len (d_bcons (d_val (d_idx hu (d_loc (pv 0)) (d_val d_int))) d_bnil)))))))) d_snil)
      (d_scons (d_ifS (PW.pt (d_wor (d_tcmp op_geA psem_ord (d_val (d_idx hu (d_loc (pv 0)) (d_val d_int))) (d_val (d_callB call_lenA psem_len rfl T.n_len (d_bcons (d_val (d_idx hu (d_loc (pv 0)) (d_val d_int))) d_bnil))) (nomark _)) (d_wor1 (d_tcmp op_ltA psem_ord (d_loc (pv 4)) (d_val (d_pow (d_val d_int) (d_val d_int))) (nomark _))))) (d_scons (d_set hu rfl (by first | exact Or.inl rfl | exact Or.inr rfl) (d_mod (d_val (d_callTy call_int1 psem_int rfl T.n_int (d_bcons (d_val (d_add (d_loc (pv 4)) (d_val (d_mul (d_val d_int) (d_val (d_idx hu (d_loc (pv 0)) (d_val d_int))))))) d_bnil))) (d_loc (pv 2))))
      (d_scons (d_set hu rfl (by first | exact Or.inl rfl | exact Or.inr rfl) (d_mod (d_val (d_callTy call_int1 psem_int rfl T.n_int (d_bcons (d_val (d_add (d_val (d_add (d_val (d_mul (d_loc (pv 4)) (d_loc (pv 4)))) (d_val (d_mul (d_val d_int) (d_loc (pv 4)))))) (d_val d_int))) d_bnil))) (d_loc (pv 2))))
      (d_sone (d_set hu rfl (by first | exact Or.inl rfl | exact Or.inr rfl) (d_mod (d_val (d_callTy call_int1 psem_int rfl T.n_int (d_bcons (d_val (d_add (d_val (d_mul (d_loc (pv 4)) (d_loc (pv 4)))) (d_val d_int))) d_bnil))) (d_loc (pv 2))))))) d_snil)
      (d_scons (d_asg (d_add (d_val (d_idx hu (d_loc (pv 0)) (d_val d_int))) (d_val d_int)) (d_gPut hu (pv 0) (d_val d_int)))
      (d_sone (d_asg (d_var (pv 4)) (d_gPut hu (pv 0) (d_val d_int)))))))) d_snil)
      (d_scons (d_set hu rfl (by first | exact Or.inl rfl | exact Or.inr rfl) (d_mod (d_val (d_callTy call_int1 psem_int rfl T.n_int (d_bcons (d_val (d_idx hu (d_loc (pv 0)) (d_val d_int))) d_bnil))) (d_loc (pv 1))))
      (d_scons (d_asg (d_div (d_val (d_idx hu (d_loc (pv 0)) (d_val d_int))) (d_loc (pv 1))) (d_gPut hu (pv 0) (d_val d_int)))
      (d_sone (d_ret (d_var (pv 3))))))))
theorem w_L_of (T : Tx K mg) (F : Fn K mg "_law_of" st_L_of ["_law_tape", "_law_some"]) (C_L_draw : Cal P w K mg base "_law_draw" 1 (spI ⟨K, ⟨exA K, []⟩⟩ 2 (m_L_draw))) : Cal P w K mg base "_law_of" 2 (spI ⟨K, ⟨exA K, []⟩⟩ 2 m_L_of) :=
  cal_I (exA K) F sc_L_of (by decide) fun f cdv A outer s H E hr => by
    have hu := at_def (P := P) (w := w) (K := K) (mg := mg) (base := base) (f := f) (cdv := cdv) (A := A) (outer := outer) (s := s) (H := H) (E := E) sc_L_of hr
    exact (d_sone (d_ret (d_idx hu (d_loc (pv 1)) (d_val (d_callI hu C_L_draw (hr.mono (by omega)) rfl (pv 0) (d_cons (d_callB call_lenA psem_len rfl T.n_len (d_bcons (d_loc (pv 1)) d_bnil)) d_nil))))))
theorem w_L_ways (T : Tx K mg) (F : Fn K mg "_law_ways" st_L_ways []) : Cal P w K mg base "_law_ways" 1 (spP ⟨K, ⟨exA K, []⟩⟩ 0 m_L_ways) :=
  cal_P (exA K) F sc_L_ways fun f cdv A outer s H E hr => by
    have hu := at_def (P := P) (w := w) (K := K) (mg := mg) (base := base) (f := f) (cdv := cdv) (A := A) (outer := outer) (s := s) (H := H) (E := E) sc_L_ways hr
    exact (d_sone (d_ret (d_fz (d_lstF (d_cons d_str (d_cons d_str (d_cons d_str (d_cons d_str (d_cons d_str (d_cons d_str d_nil))))))))))
theorem w_L_sum (T : Tx K mg) (F : Fn K mg "_law_sum" st_L_sum ["_law_tape", "_law_names", "_law_nodes"]) (C_L_draw : Cal P w K mg base "_law_draw" 1 (spI ⟨K, ⟨exA K, []⟩⟩ 2 (m_L_draw))) (C_L_of : Cal P w K mg base "_law_of" 2 (spI ⟨K, ⟨exA K, []⟩⟩ 2 (m_L_of))) (C_L_ways : Cal P w K mg base "_law_ways" 1 (spP ⟨K, ⟨exA K, []⟩⟩ 0 (m_L_ways))) : ∀ n : Nat, Cal P w K mg base "_law_sum" (2 + n + 1) (spI ⟨K, ⟨exA K, []⟩⟩ 3 (m_L_sum n))
  | 0 => cal_I0 _ (exA K) F sc_L_sum
  | n + 1 => by
    have ih := w_L_sum T F C_L_draw C_L_of C_L_ways n
    exact cal_I (exA K) F sc_L_sum (by decide) fun f cdv A outer s H E hr => by
      have hu := at_def (P := P) (w := w) (K := K) (mg := mg) (base := base) (f := f) (cdv := cdv) (A := A) (outer := outer) (s := s) (H := H) (E := E) sc_L_sum hr
      exact (d_scons (d_ifS (PW.pt (d_wor (d_tcmp op_ltA psem_ord (d_loc (pv 2)) (d_val d_int) (nomark _)) (d_wor1 (d_tcmp (op_eqD hu.un) psem_eq (d_val (d_callI hu C_L_draw (hr.mono (by omega)) rfl (pv 0) (d_cons d_int d_nil))) (d_val d_int) (nomark _))))) (d_sone (d_ret (d_tup (d_cons d_str (d_cons (d_callI hu C_L_of (hr.mono (by omega)) rfl (pv 0) (d_cons (d_var (pv 1)) d_nil)) d_nil))))) d_snil)
      (d_scons (d_ifS (PW.pt (d_wor (d_tcmp op_ltA psem_ord (d_loc (pv 2)) (d_val d_int) (nomark _)) (d_wor1 (d_tcmp (op_eqD hu.un) psem_eq (d_val (d_callI hu C_L_draw (hr.mono (by omega)) rfl (pv 0) (d_cons d_int d_nil))) (d_val d_int) (nomark _))))) (d_sone (d_ret (d_tup (d_cons (d_callI hu C_L_of (hr.mono (by omega)) rfl (pv 0) (d_cons (d_fz (d_lstF (d_cons d_str (d_cons d_str d_nil)))) d_nil)) (d_cons (d_callI hu ih hr rfl (pv 0) (d_cons (d_var (pv 1)) (d_cons (d_sub (d_loc (pv 2)) (d_val d_int)) d_nil))) d_nil))))) d_snil)
      (d_scons (d_set hu rfl (by first | exact Or.inl rfl | exact Or.inr rfl) (d_add (d_val d_int) (d_val (d_callI hu C_L_draw (hr.mono (by omega)) rfl (pv 0) (d_cons (d_sub (d_loc (pv 2)) (d_val d_int)) d_nil)))))
      (d_scons (d_set hu rfl (by first | exact Or.inl rfl | exact Or.inr rfl) (d_callI hu ih hr rfl (pv 0) (d_cons (d_var (pv 1)) (d_cons (d_var (pv 3)) d_nil))))
      (d_sone (d_ret (d_tup (d_cons (d_callI hu C_L_of (hr.mono (by omega)) rfl (pv 0) (d_cons (d_call0 hu C_L_ways (hr.mono (by omega)) rfl) d_nil)) (d_cons (d_var (pv 4)) (d_cons (d_callI hu ih hr rfl (pv 0) (d_cons (d_var (pv 1)) (d_cons (d_sub (d_val (d_sub (d_loc (pv 2)) (d_val d_int))) (d_loc (pv 3))) d_nil))) d_nil))))))))))
theorem w_L_step (T : Tx K mg) (F : Fn K mg "_law_step" st_L_step ["_law_tape", "_law_names", "_law_nodes"]) (C_L_of : Cal P w K mg base "_law_of" 2 (spI ⟨K, ⟨exA K, []⟩⟩ 2 (m_L_of))) (C_L_sum : Cal P w K mg base "_law_sum" 43 (spI ⟨K, ⟨exA K, []⟩⟩ 3 (m_L_sum 40))) (C_L_ways : Cal P w K mg base "_law_ways" 1 (spP ⟨K, ⟨exA K, []⟩⟩ 0 (m_L_ways))) : Cal P w K mg base "_law_step" 44 (spI ⟨K, ⟨exA K, []⟩⟩ 3 m_L_step) :=
  cal_I (exA K) F sc_L_step (by decide) fun f cdv A outer s H E hr => by
    have hu := at_def (P := P) (w := w) (K := K) (mg := mg) (base := base) (f := f) (cdv := cdv) (A := A) (outer := outer) (s := s) (H := H) (E := E) sc_L_step hr
    exact (d_sone (d_ret (d_tup (d_cons (d_callI hu C_L_of (hr.mono (by omega)) rfl (pv 0) (d_cons (d_var (pv 1)) d_nil)) (d_cons (d_callI hu C_L_of (hr.mono (by omega)) rfl (pv 0) (d_cons (d_add (d_val (d_call0 hu C_L_ways (hr.mono (by omega)) rfl)) (d_val (d_fz (d_lstF (d_cons d_str d_nil))))) d_nil)) (d_cons (d_callI hu C_L_sum (hr.mono (by omega)) rfl (pv 0) (d_cons (d_var (pv 1)) (d_cons (d_var (pv 2)) d_nil))) d_nil))))))
theorem w_L_script (T : Tx K mg) (F : Fn K mg "_law_script" st_L_script ["_law_tape", "_law_names", "_law_steps"]) (C_L_step : Cal P w K mg base "_law_step" 44 (spI ⟨K, ⟨exA K, []⟩⟩ 3 (m_L_step))) (C_L_draw : Cal P w K mg base "_law_draw" 1 (spI ⟨K, ⟨exA K, []⟩⟩ 2 (m_L_draw))) : Cal P w K mg base "_law_script" 45 (spI ⟨K, ⟨exA K, []⟩⟩ 3 m_L_script) :=
  cal_I (exA K) F sc_L_script (by decide) fun f cdv A outer s H E hr => by
    have hu := at_def (P := P) (w := w) (K := K) (mg := mg) (base := base) (f := f) (cdv := cdv) (A := A) (outer := outer) (s := s) (H := H) (E := E) sc_L_script hr
    exact (d_sone (d_ret (d_callTy call_tupleZ psem_tuple rfl T.n_tuple (d_bcons (d_val (d_fz (d_compF (own := [("_law_part", 3)]) hu (d_iRng1 rfl T.n_range (d_cons (d_callI hu C_L_draw (hr.mono (by omega)) rfl (pv 0) (d_cons (d_add (d_loc (pv 2)) (d_val d_int)) d_nil)) d_nil)) (blkOk_by (N := ["_law_tape", "_law_names", "_law_steps", "_law_part"]) (sc := defScope st_L_script) (own := [("_law_part", 3)]) (by decide +kernel)) (fun _ _ _ _ _ => (d_gName (at_blk hu).nd rfl (by first | exact Or.inl rfl | exact Or.inr rfl) (by first | exact Or.inl rfl | exact Or.inr rfl))) (fun _ _ _ _ _ => pts_nilT) (fun _ _ _ _ _ => (d_callI (at_blk hu) C_L_step (hr.mono (by omega)) rfl (pv 0) (d_cons (d_var (pv 1)) (d_cons d_int d_nil)))) (by decide)))) d_bnil))))
theorem w_L_bent (T : Tx K mg) (F : Fn K mg "_law_bent" st_L_bent ["_law_tape", "_law_text"]) (C_L_draw : Cal P w K mg base "_law_draw" 1 (spI ⟨K, ⟨exA K, []⟩⟩ 2 (m_L_draw))) (C_L_of : Cal P w K mg base "_law_of" 2 (spI ⟨K, ⟨exA K, []⟩⟩ 2 (m_L_of))) : Cal P w K mg base "_law_bent" 3 (spI ⟨K, ⟨exA K, []⟩⟩ 2 m_L_bent) :=
  cal_I (exA K) F sc_L_bent (by decide) fun f cdv A outer s H E hr => by
    have hu := at_def (P := P) (w := w) (K := K) (mg := mg) (base := base) (f := f) (cdv := cdv) (A := A) (outer := outer) (s := s) (H := H) (E := E) sc_L_bent hr
    exact (d_scons (d_set hu rfl (by first | exact Or.inl rfl | exact Or.inr rfl) (d_callI hu C_L_draw (hr.mono (by omega)) rfl (pv 0) (d_cons (d_add (d_val (d_callB call_lenA psem_len rfl T.n_len (d_bcons (d_loc (pv 1)) d_bnil))) (d_val d_int)) d_nil)))
      (d_scons (d_setF hu rfl (by first | exact Or.inl rfl | exact Or.inr rfl) (d_lstF (d_cons d_str (d_cons d_str (d_cons d_str (d_cons d_str (d_cons d_str (d_cons d_str (d_cons d_str (d_cons d_str (d_cons d_str (d_cons d_str (d_cons d_str (d_cons d_str (d_cons d_str (d_cons d_str d_nil))))))))))))))))
      (d_scons (d_ifS (d_tcmp (op_eqD hu.un) psem_eq (d_val (d_callI hu C_L_draw (hr.mono (by omega)) rfl (pv 0) (d_cons d_int d_nil))) (d_val d_int) (nomark _)) (d_sone (d_ret (d_add (d_val (d_add (d_val (d_slice (d_loc (pv 1)) d_pn (d_pe (d_var (pv 2))))) (d_val (d_callI hu C_L_of (hr.mono (by omega)) rfl (pv 0) (d_cons (d_var (pv 3)) d_nil))))) (d_val (d_slice (d_loc (pv 1)) (d_pe (d_var (pv 2))) d_pn))))) d_snil)
      (d_sone (d_ret (d_add (d_val (d_slice (d_loc (pv 1)) d_pn (d_pe (d_var (pv 2))))) (d_val (d_slice (d_loc (pv 1)) (d_pe (d_add (d_loc (pv 2)) (d_val d_int))) d_pn))))))))
theorem w_is_name (T : Tx K mg) (F : Fn K mg "is_name" st_is_name ["thing"]) : Cal P w K mg base "is_name" 1 (spP ⟨K, ⟨exA K, []⟩⟩ 1 m_is_name) :=
  cal_P (exA K) F sc_is_name fun f cdv A outer s H E hr => by
    have hu := at_def (P := P) (w := w) (K := K) (mg := mg) (base := base) (f := f) (cdv := cdv) (A := A) (outer := outer) (s := s) (H := H) (E := E) sc_is_name hr
    exact (d_sone (d_ret (d_and (d_isi1 rfl T.n_isinstance (by decide) rfl T.n_str (d_loc (pv 0))) (d_and (d_chain op_leA op_leA psem_ord psem_ord (d_val d_int) (d_val (d_callB call_lenA psem_len rfl T.n_len (d_bcons (d_loc (pv 0)) d_bnil))) (d_val d_int)) (d_one (d_callB (cr_all hu.calm) psem_all rfl T.n_all (d_bcons (d_val (d_fz (d_compF (own := [("sign", 1)]) hu (d_iAny (d_var (pv 0))) (blkOk_by (N := ["thing", "sign"]) (sc := defScope st_is_name) (own := [("sign", 1)]) (by decide +kernel)) (fun _ _ _ _ _ => (d_gName (at_blk hu).nd rfl (by first | exact Or.inl rfl | exact Or.inr rfl) (by first | exact Or.inl rfl | exact Or.inr rfl))) (fun _ _ _ _ _ => pts_nilT) (fun _ _ _ _ _ => (d_cmp (op_inA (at_blk hu).un) psem_in (d_loc (pv 1)) (d_val (d_glob rfl T.c_LETTERS fun _ => .str _)) (by rfl))) (by decide)))) d_bnil)))))))
theorem w_is_node (T : Tx K mg) (F : Fn K mg "is_node" st_is_node ["thing", "deep"]) (C_is_name : Cal P w K mg base "is_name" 1 (spP ⟨K, ⟨exA K, []⟩⟩ 1 (m_is_name))) : ∀ n : Nat, Cal P w K mg base "is_node" (1 + n + 1) (spP ⟨K, ⟨exA K, []⟩⟩ 2 (m_is_node n))
  | 0 => cal_P0 _ (exA K) F sc_is_node
  | n + 1 => by
    have ih := w_is_node T F C_is_name n
    exact cal_P (exA K) F sc_is_node fun f cdv A outer s H E hr => by
      have hu := at_def (P := P) (w := w) (K := K) (mg := mg) (base := base) (f := f) (cdv := cdv) (A := A) (outer := outer) (s := s) (H := H) (E := E) sc_is_node hr
      exact (d_scons (d_ifS (PW.pt (d_wor (d_tcmp op_gtA psem_ord (d_loc (pv 1)) (d_val (d_glob rfl T.c_MOST_NODES fun _ => .int _)) (nomark _)) (d_wor (d_tnot (d_tru (d_val (d_isi1 rfl T.n_isinstance (by decide) rfl T.n_tuple (d_loc (pv 0)))))) (d_wor (d_tcmp op_ltA psem_ord (d_val (d_callB call_lenA psem_len rfl T.n_len (d_bcons (d_loc (pv 0)) d_bnil))) (d_val d_int) (nomark _)) (d_wor1 (d_tnot (d_tru (d_val (d_isi1 rfl T.n_isinstance (by decide) rfl T.n_str (d_val (d_idx hu (d_loc (pv 0)) (d_val d_int)))))))))))) (d_sone (d_ret d_bl)) d_snil)
      (d_scons (d_ifS (d_tcmp (op_eqD hu.un) psem_eq (d_val (d_idx hu (d_loc (pv 0)) (d_val d_int))) (d_val d_str) (nomark _)) (d_sone (d_ret (d_and (d_cmp (op_eqD hu.un) psem_eq (d_val (d_callB call_lenA psem_len rfl T.n_len (d_bcons (d_loc (pv 0)) d_bnil))) (d_val d_int) (nomark _)) (d_one (d_callP hu C_is_name (hr.mono (by omega)) rfl (d_cons (d_idx hu (d_loc (pv 0)) (d_val d_int)) d_nil)))))) d_snil)
      (d_scons (d_ifS (d_tcmp (op_inA hu.un) psem_in (d_val (d_idx hu (d_loc (pv 0)) (d_val d_int))) (d_val (d_globT rfl T.c_SINGLES fun _ => (.cons (.str _) (.cons (.str _) .nil)))) (by rfl)) (d_sone (d_ret (d_and (d_cmp (op_eqD hu.un) psem_eq (d_val (d_callB call_lenA psem_len rfl T.n_len (d_bcons (d_loc (pv 0)) d_bnil))) (d_val d_int) (nomark _)) (d_one (d_callP hu ih hr rfl (d_cons (d_idx hu (d_loc (pv 0)) (d_val d_int)) (d_cons (d_add (d_loc (pv 1)) (d_val d_int)) d_nil))))))) d_snil)
      (d_sone (d_ret (d_and (d_cmp (op_inA hu.un) psem_in (d_val (d_idx hu (d_loc (pv 0)) (d_val d_int))) (d_val (d_globT rfl T.c_PAIRS fun _ => (.cons (.str _) (.cons (.str _) (.cons (.str _) (.cons (.str _) (.cons (.str _) (.cons (.str _) .nil)))))))) (by rfl)) (d_and (d_cmp (op_eqD hu.un) psem_eq (d_val (d_callB call_lenA psem_len rfl T.n_len (d_bcons (d_loc (pv 0)) d_bnil))) (d_val d_int) (nomark _)) (d_one (d_callB (cr_all hu.calm) psem_all rfl T.n_all (d_bcons (d_val (d_fz (d_compF (own := [("part", 2)]) hu (d_iAny (d_slice (d_loc (pv 0)) (d_pe d_int) d_pn)) (blkOk_by (N := ["thing", "deep", "part"]) (sc := defScope st_is_node) (own := [("part", 2)]) (by decide +kernel)) (fun _ _ _ _ _ => (d_gName (at_blk hu).nd rfl (by first | exact Or.inl rfl | exact Or.inr rfl) (by first | exact Or.inl rfl | exact Or.inr rfl))) (fun _ _ _ _ _ => pts_nilT) (fun _ _ _ _ _ => (d_callP (at_blk hu) ih hr rfl (d_cons (d_var (pv 2)) (d_cons (d_add (d_loc (pv 1)) (d_val d_int)) d_nil)))) (by decide)))) d_bnil))))))))))
theorem w_size_of (T : Tx K mg) (F : Fn K mg "size_of" st_size_of ["expression"]) : ∀ n : Nat, Cal P w K mg base "size_of" (0 + n + 1) (spP ⟨K, ⟨exA K, []⟩⟩ 1 (m_size_of n))
  | 0 => cal_P0 _ (exA K) F sc_size_of
  | n + 1 => by
    have ih := w_size_of T F n
    exact cal_P (exA K) F sc_size_of fun f cdv A outer s H E hr => by
      have hu := at_def (P := P) (w := w) (K := K) (mg := mg) (base := base) (f := f) (cdv := cdv) (A := A) (outer := outer) (s := s) (H := H) (E := E) sc_size_of hr
      exact (d_sone (d_ret (d_if (d_tcmp (op_eqD hu.un) psem_eq (d_val (d_idx hu (d_loc (pv 0)) (d_val d_int))) (d_val d_str) (nomark _)) d_int (d_add (d_val d_int) (d_val (d_callB (cr_sum hu.calm) psem_sum rfl T.n_sum (d_bcons (d_val (d_fz (d_compF (own := [("part", 1)]) hu (d_iAny (d_slice (d_loc (pv 0)) (d_pe d_int) d_pn)) (blkOk_by (N := ["expression", "part"]) (sc := defScope st_size_of) (own := [("part", 1)]) (by decide +kernel)) (fun _ _ _ _ _ => (d_gName (at_blk hu).nd rfl (by first | exact Or.inl rfl | exact Or.inr rfl) (by first | exact Or.inl rfl | exact Or.inr rfl))) (fun _ _ _ _ _ => pts_nilT) (fun _ _ _ _ _ => (d_callP (at_blk hu) ih hr rfl (d_cons (d_var (pv 1)) d_nil))) (by decide)))) d_bnil)))))))
theorem w_names_in (T : Tx K mg) (F : Fn K mg "names_in" st_names_in ["expression"]) : ∀ n : Nat, Cal P w K mg base "names_in" (0 + n + 1) (spP ⟨K, ⟨exA K, []⟩⟩ 1 (m_names_in n))
  | 0 => cal_P0 _ (exA K) F sc_names_in
  | n + 1 => by
    have ih := w_names_in T F n
    exact cal_P (exA K) F sc_names_in fun f cdv A outer s H E hr => by
      have hu := at_def (P := P) (w := w) (K := K) (mg := mg) (base := base) (f := f) (cdv := cdv) (A := A) (outer := outer) (s := s) (H := H) (E := E) sc_names_in hr
      exact (d_scons (d_ifS (d_tcmp (op_eqD hu.un) psem_eq (d_val (d_idx hu (d_loc (pv 0)) (d_val d_int))) (d_val d_str) (nomark _)) (d_sone (d_ret (d_fz (d_dispF (l := [((sOps gIdx (b2 (sLoc 0) (sVal (sCst (.int 1))))), (sCst (.bl true)))]) (pps_cons (d_idx hu (d_loc (pv 0)) (d_val d_int)) d_bl pps_nil))))) d_snil)
      (d_scons (d_setF hu rfl (by first | exact Or.inl rfl | exact Or.inr rfl) d_dctF)
      (d_scons (d_for hu (passes_of rfl) (d_iAny (d_slice (d_loc (pv 0)) (d_pe d_int) d_pn)) (d_gName hu.nd rfl (by first | exact Or.inl rfl | exact Or.inr rfl) (by first | exact Or.inl rfl | exact Or.inr rfl)) (d_sone (d_expr (d_dupd (pv 1) (d_callP hu ih hr rfl (d_cons (d_var (pv 2)) d_nil))))))
      (d_sone (d_ret (d_var (pv 1)))))))
theorem w_is_expression (T : Tx K mg) (F : Fn K mg "is_expression" st_is_expression ["thing"]) (C_is_node : Cal P w K mg base "is_node" 42 (spP ⟨K, ⟨exA K, []⟩⟩ 2 (m_is_node 40))) (C_size_of : Cal P w K mg base "size_of" 41 (spP ⟨K, ⟨exA K, []⟩⟩ 1 (m_size_of 40))) (C_names_in : Cal P w K mg base "names_in" 41 (spP ⟨K, ⟨exA K, []⟩⟩ 1 (m_names_in 40))) : Cal P w K mg base "is_expression" 43 (spP ⟨K, ⟨exA K, []⟩⟩ 1 m_is_expression) :=
  cal_P (exA K) F sc_is_expression fun f cdv A outer s H E hr => by
    have hu := at_def (P := P) (w := w) (K := K) (mg := mg) (base := base) (f := f) (cdv := cdv) (A := A) (outer := outer) (s := s) (H := H) (E := E) sc_is_expression hr
    exact (d_sone (d_ret (d_and (d_callP hu C_is_node (hr.mono (by omega)) rfl (d_cons (d_var (pv 0)) (d_cons d_int d_nil))) (d_and (d_cmp op_leA psem_ord (d_val (d_callP hu C_size_of (hr.mono (by omega)) rfl (d_cons (d_var (pv 0)) d_nil))) (d_val (d_glob rfl T.c_MOST_NODES fun _ => .int _)) (nomark _)) (d_one (d_cmp op_leA psem_ord (d_val (d_callB call_lenA psem_len rfl T.n_len (d_bcons (d_val (d_callP hu C_names_in (hr.mono (by omega)) rfl (d_cons (d_var (pv 0)) d_nil))) d_bnil))) (d_val (d_glob rfl T.c_MOST_NAMES fun _ => .int _)) (nomark _)))))))
theorem w_looked_expressions (T : Tx K mg) (F : FnSA K mg "looked_expressions" "looked" st_looked_expressions "expressions") (C_is_expression : Cal P w K mg base "is_expression" 43 (spP ⟨K, ⟨exA K, []⟩⟩ 1 (m_is_expression))) : CalS P w K mg base "looked_expressions" 44 (spS ⟨K, ⟨exA K, []⟩⟩ m_looked_expressions) :=
  cal_SA (exA K) F sc_looked_expressions fun f cdv A outer s H E hr => by
    have hu := at_def (P := P) (w := w) (K := K) (mg := mg) (base := base) (f := f) (cdv := cdv) (A := A) (outer := outer) (s := s) (H := H) (E := E) sc_looked_expressions hr
    exact (d_sone (d_for hu (passes_of rfl) (d_iAny (d_var (pv 0))) (d_gName hu.nd rfl (by first | exact Or.inl rfl | exact Or.inr rfl) (by first | exact Or.inl rfl | exact Or.inr rfl)) (d_sone (d_ifS (d_tnot (d_tru (d_val (d_callP hu C_is_expression (hr.mono (by omega)) rfl (d_cons (d_var (pv 1)) d_nil))))) (d_sone (d_raise hu T.k_NoExpression rfl)) d_snil))))
theorem w_sign_of (T : Tx K mg) (F : Fn K mg "sign_of" st_sign_of ["word"]) : Cal P w K mg base "sign_of" 1 (spP ⟨K, ⟨exA K, []⟩⟩ 1 m_sign_of) :=
  cal_P (exA K) F sc_sign_of fun f cdv A outer s H E hr => by
    have hu := at_def (P := P) (w := w) (K := K) (mg := mg) (base := base) (f := f) (cdv := cdv) (A := A) (outer := outer) (s := s) (H := H) (E := E) sc_sign_of hr
    exact (d_sone (d_ret (d_idx hu (d_val (d_fz (d_dictC hu rfl T.c_SIGNS rfl T.n_dict (by decide +kernel)))) (d_loc (pv 0)))))
theorem w_text_of (T : Tx K mg) (F : Fn K mg "text_of" st_text_of ["expression"]) (C_sign_of : Cal P w K mg base "sign_of" 1 (spP ⟨K, ⟨exA K, []⟩⟩ 1 (m_sign_of))) : ∀ n : Nat, Cal P w K mg base "text_of" (1 + n + 1) (spP ⟨K, ⟨exA K, []⟩⟩ 1 (m_text_of n))
  | 0 => cal_P0 _ (exA K) F sc_text_of
  | n + 1 => by
    have ih := w_text_of T F C_sign_of n
    exact cal_P (exA K) F sc_text_of fun f cdv A outer s H E hr => by
      have hu := at_def (P := P) (w := w) (K := K) (mg := mg) (base := base) (f := f) (cdv := cdv) (A := A) (outer := outer) (s := s) (H := H) (E := E) sc_text_of hr
      exact (d_scons (d_ifS (d_tcmp (op_eqD hu.un) psem_eq (d_val (d_idx hu (d_loc (pv 0)) (d_val d_int))) (d_val d_str) (nomark _)) (d_sone (d_ret (d_idx hu (d_loc (pv 0)) (d_val d_int)))) d_snil)
      (d_scons (d_ifS (PW.pt (d_wor (d_tcmp (op_eqD hu.un) psem_eq (d_val (d_idx hu (d_loc (pv 0)) (d_val d_int))) (d_val d_str) (nomark _)) (d_wor1 (d_tcmp (op_eqD hu.un) psem_eq (d_val (d_idx hu (d_loc (pv 0)) (d_val d_int))) (d_val d_str) (nomark _))))) (d_sone (d_ret (d_add (d_val (d_add (d_val (d_if (d_tcmp (op_eqD hu.un) psem_eq (d_val (d_idx hu (d_loc (pv 0)) (d_val d_int))) (d_val d_str) (nomark _)) d_str d_str)) (d_val (d_callP hu ih hr rfl (d_cons (d_idx hu (d_loc (pv 0)) (d_val d_int)) d_nil))))) (d_val d_str)))) d_snil)
      (d_scons (d_ifS (d_tcmp (op_inA hu.un) psem_in (d_val (d_idx hu (d_loc (pv 0)) (d_val d_int))) (d_val (d_globT rfl T.c_CALLS fun _ => (.cons (.str _) (.cons (.str _) .nil)))) (by rfl)) (d_sone (d_ret (d_add (d_val (d_add (d_val (d_add (d_val (d_add (d_val (d_add (d_val (d_idx hu (d_loc (pv 0)) (d_val d_int))) (d_val d_str))) (d_val (d_callP hu ih hr rfl (d_cons (d_idx hu (d_loc (pv 0)) (d_val d_int)) d_nil))))) (d_val d_str))) (d_val (d_callP hu ih hr rfl (d_cons (d_idx hu (d_loc (pv 0)) (d_val d_int)) d_nil))))) (d_val d_str)))) d_snil)
      (d_sone (d_ret (d_add (d_val (d_add (d_val (d_add (d_val (d_add (d_val (d_add (d_val (d_add (d_val d_str) (d_val (d_callP hu ih hr rfl (d_cons (d_idx hu (d_loc (pv 0)) (d_val d_int)) d_nil))))) (d_val d_str))) (d_val (d_callP hu C_sign_of (hr.mono (by omega)) rfl (d_cons (d_idx hu (d_loc (pv 0)) (d_val d_int)) d_nil))))) (d_val d_str))) (d_val (d_callP hu ih hr rfl (d_cons (d_idx hu (d_loc (pv 0)) (d_val d_int)) d_nil))))) (d_val d_str)))))))
theorem w_expression_text (T : Tx K mg) (F : Fn K mg "expression_text" st_expression_text ["expression"]) (C_looked_expressions : CalS P w K mg base "looked_expressions" 44 (spS ⟨K, ⟨exA K, []⟩⟩ (m_looked_expressions))) (C_text_of : Cal P w K mg base "text_of" 42 (spP ⟨K, ⟨exA K, []⟩⟩ 1 (m_text_of 40))) : Cal P w K mg base "expression_text" 45 (spP ⟨K, ⟨exA K, []⟩⟩ 1 m_expression_text) :=
  cal_P (exA K) F sc_expression_text fun f cdv A outer s H E hr => by
    have hu := at_def (P := P) (w := w) (K := K) (mg := mg) (base := base) (f := f) (cdv := cdv) (A := A) (outer := outer) (s := s) (H := H) (E := E) sc_expression_text hr
    exact (d_scons (d_expr (d_callS hu C_looked_expressions (hr.mono (by omega)) rfl (d_cons (d_var (pv 0)) d_nil)))
      (d_sone (d_ret (d_callP hu C_text_of (hr.mono (by omega)) rfl (d_cons (d_var (pv 0)) d_nil)))))
theorem w_names_used (T : Tx K mg) (F : Fn K mg "names_used" st_names_used ["script"]) (C_names_in : Cal P w K mg base "names_in" 41 (spP ⟨K, ⟨exA K, []⟩⟩ 1 (m_names_in 40))) : Cal P w K mg base "names_used" 42 (spP ⟨K, ⟨exA K, []⟩⟩ 1 m_names_used) :=
  cal_P (exA K) F sc_names_used fun f cdv A outer s H E hr => by
    have hu := at_def (P := P) (w := w) (K := K) (mg := mg) (base := base) (f := f) (cdv := cdv) (A := A) (outer := outer) (s := s) (H := H) (E := E) sc_names_used hr
    exact (d_scons (d_setF hu rfl (by first | exact Or.inl rfl | exact Or.inr rfl) d_dctF)
      (d_scons (d_for hu (passes_of rfl) (d_iAny (d_var (pv 0))) (d_gTup hu.calm (d_gC (d_gName hu.nd rfl (by first | exact Or.inl rfl | exact Or.inr rfl) (by first | exact Or.inl rfl | exact Or.inr rfl)) (d_gC (d_gName hu.nd rfl (by first | exact Or.inl rfl | exact Or.inr rfl) (by first | exact Or.inl rfl | exact Or.inr rfl)) (d_gC (d_gName hu.nd rfl (by first | exact Or.inl rfl | exact Or.inr rfl) (by first | exact Or.inl rfl | exact Or.inr rfl)) d_gN)))) (d_scons (d_asg d_bl (d_gPut hu (pv 1) (d_loc (pv 2))))
      (d_sone (d_expr (d_dupd (pv 1) (d_callP hu C_names_in (hr.mono (by omega)) rfl (d_cons (d_var (pv 4)) d_nil)))))))
      (d_sone (d_ret (d_fz (d_callBF (cr_sortedA hu.calm) fsem_sortA rfl T.n_sorted (d_bcons (d_val (d_fz (d_callTyF (call_listA hu.calm) fsem_list rfl T.n_list (d_bcons (d_loc (pv 1)) d_bnil)))) d_bnil)))))))
theorem w_is_step (T : Tx K mg) (F : Fn K mg "is_step" st_is_step ["thing"]) (C_is_expression : Cal P w K mg base "is_expression" 43 (spP ⟨K, ⟨exA K, []⟩⟩ 1 (m_is_expression))) (C_is_name : Cal P w K mg base "is_name" 1 (spP ⟨K, ⟨exA K, []⟩⟩ 1 (m_is_name))) : Cal P w K mg base "is_step" 44 (spP ⟨K, ⟨exA K, []⟩⟩ 1 m_is_step) :=
  cal_P (exA K) F sc_is_step fun f cdv A outer s H E hr => by
    have hu := at_def (P := P) (w := w) (K := K) (mg := mg) (base := base) (f := f) (cdv := cdv) (A := A) (outer := outer) (s := s) (H := H) (E := E) sc_is_step hr
    exact (d_scons (d_ifS (PW.pt (d_wor (d_tnot (d_tru (d_val (d_isi1 rfl T.n_isinstance (by decide) rfl T.n_tuple (d_loc (pv 0)))))) (d_wor (d_tcmp (op_neD hu.un) psem_ne (d_val (d_callB call_lenA psem_len rfl T.n_len (d_bcons (d_loc (pv 0)) d_bnil))) (d_val d_int) (nomark _)) (d_wor (d_tnot (d_tru (d_val (d_callP hu C_is_name (hr.mono (by omega)) rfl (d_cons (d_idx hu (d_loc (pv 0)) (d_val d_int)) d_nil))))) (d_wor1 (d_tnot (d_tru (d_val (d_isi1 rfl T.n_isinstance (by decide) rfl T.n_str (d_val (d_idx hu (d_loc (pv 0)) (d_val d_int)))))))))))) (d_sone (d_ret d_bl)) d_snil)
      (d_sone (d_ret (d_and (d_or (d_cmp (op_eqD hu.un) psem_eq (d_val (d_idx hu (d_loc (pv 0)) (d_val d_int))) (d_val (d_glob rfl T.c_SET fun _ => .str _)) (nomark _)) (d_one (d_cmp (op_inA hu.un) psem_in (d_val (d_idx hu (d_loc (pv 0)) (d_val d_int))) (d_val (d_globT rfl T.c_PAIRS fun _ => (.cons (.str _) (.cons (.str _) (.cons (.str _) (.cons (.str _) (.cons (.str _) (.cons (.str _) .nil)))))))) (by rfl)))) (d_one (d_callP hu C_is_expression (hr.mono (by omega)) rfl (d_cons (d_idx hu (d_loc (pv 0)) (d_val d_int)) d_nil)))))))
theorem w_is_script (T : Tx K mg) (F : Fn K mg "is_script" st_is_script ["thing"]) (C_names_used : Cal P w K mg base "names_used" 42 (spP ⟨K, ⟨exA K, []⟩⟩ 1 (m_names_used))) (C_size_of : Cal P w K mg base "size_of" 41 (spP ⟨K, ⟨exA K, []⟩⟩ 1 (m_size_of 40))) (C_is_step : Cal P w K mg base "is_step" 44 (spP ⟨K, ⟨exA K, []⟩⟩ 1 (m_is_step))) : Cal P w K mg base "is_script" 45 (spP ⟨K, ⟨exA K, []⟩⟩ 1 m_is_script) :=
  cal_P (exA K) F sc_is_script fun f cdv A outer s H E hr => by
    have hu := at_def (P := P) (w := w) (K := K) (mg := mg) (base := base) (f := f) (cdv := cdv) (A := A) (outer := outer) (s := s) (H := H) (E := E) sc_is_script hr
    exact (d_scons (d_ifS (PW.pt (d_wor (d_tnot (d_tru (d_val (d_isi1 rfl T.n_isinstance (by decide) rfl T.n_tuple (d_loc (pv 0)))))) (d_wor (d_tcmp op_gtA psem_ord (d_val (d_callB call_lenA psem_len rfl T.n_len (d_bcons (d_loc (pv 0)) d_bnil))) (d_val (d_glob rfl T.c_MOST_STEPS fun _ => .int _)) (nomark _)) (d_wor1 (d_tnot (d_tru (d_val (d_callB (cr_all hu.calm) psem_all rfl T.n_all (d_bcons (d_val (d_fz (d_compF (own := [("part", 1)]) hu (d_iAny (d_var (pv 0))) (blkOk_by (N := ["thing", "part"]) (sc := defScope st_is_script) (own := [("part", 1)]) (by decide +kernel)) (fun _ _ _ _ _ => (d_gName (at_blk hu).nd rfl (by first | exact Or.inl rfl | exact Or.inr rfl) (by first | exact Or.inl rfl | exact Or.inr rfl))) (fun _ _ _ _ _ => pts_nilT) (fun _ _ _ _ _ => (d_callP (at_blk hu) C_is_step (hr.mono (by omega)) rfl (d_cons (d_var (pv 1)) d_nil))) (by decide)))) d_bnil))))))))) (d_sone (d_ret d_bl)) d_snil)
      (d_scons (d_ifS (d_tcmp op_gtA psem_ord (d_val (d_callB (cr_sum hu.calm) psem_sum rfl T.n_sum (d_bcons (d_val (d_fz (d_compF (own := [("part", 1)]) hu (d_iAny (d_var (pv 0))) (blkOk_by (N := ["thing", "part"]) (sc := defScope st_is_script) (own := [("part", 1)]) (by decide +kernel)) (fun _ _ _ _ _ => (d_gName (at_blk hu).nd rfl (by first | exact Or.inl rfl | exact Or.inr rfl) (by first | exact Or.inl rfl | exact Or.inr rfl))) (fun _ _ _ _ _ => pts_nilT) (fun _ _ _ _ _ => (d_callP (at_blk hu) C_size_of (hr.mono (by omega)) rfl (d_cons (d_idx (at_blk hu) (d_loc (pv 1)) (d_val d_int)) d_nil))) (by decide)))) d_bnil))) (d_val (d_glob rfl T.c_MOST_NODES fun _ => .int _)) (nomark _)) (d_sone (d_ret d_bl)) d_snil)
      (d_sone (d_ret (d_cmp op_leA psem_ord (d_val (d_callB call_lenA psem_len rfl T.n_len (d_bcons (d_val (d_callP hu C_names_used (hr.mono (by omega)) rfl (d_cons (d_var (pv 0)) d_nil))) d_bnil))) (d_val (d_glob rfl T.c_MOST_NAMES fun _ => .int _)) (nomark _))))))
theorem w_looked_scripts (T : Tx K mg) (F : FnSA K mg "looked_scripts" "looked" st_looked_scripts "scripts") (C_is_script : Cal P w K mg base "is_script" 45 (spP ⟨K, ⟨exA K, []⟩⟩ 1 (m_is_script))) : CalS P w K mg base "looked_scripts" 46 (spS ⟨K, ⟨exA K, []⟩⟩ m_looked_scripts) :=
  cal_SA (exA K) F sc_looked_scripts fun f cdv A outer s H E hr => by
    have hu := at_def (P := P) (w := w) (K := K) (mg := mg) (base := base) (f := f) (cdv := cdv) (A := A) (outer := outer) (s := s) (H := H) (E := E) sc_looked_scripts hr
    exact (d_sone (d_for hu (passes_of rfl) (d_iAny (d_var (pv 0))) (d_gName hu.nd rfl (by first | exact Or.inl rfl | exact Or.inr rfl) (by first | exact Or.inl rfl | exact Or.inr rfl)) (d_sone (d_ifS (d_tnot (d_tru (d_val (d_callP hu C_is_script (hr.mono (by omega)) rfl (d_cons (d_var (pv 1)) d_nil))))) (d_sone (d_raise hu T.k_NoScript rfl)) d_snil))))
theorem w_line_of (T : Tx K mg) (F : Fn K mg "line_of" st_line_of ["step"]) (C_text_of : Cal P w K mg base "text_of" 42 (spP ⟨K, ⟨exA K, []⟩⟩ 1 (m_text_of 40))) (C_sign_of : Cal P w K mg base "sign_of" 1 (spP ⟨K, ⟨exA K, []⟩⟩ 1 (m_sign_of))) : Cal P w K mg base "line_of" 43 (spP ⟨K, ⟨exA K, []⟩⟩ 1 m_line_of) :=
  cal_P (exA K) F sc_line_of fun f cdv A outer s H E hr => by
    have hu := at_def (P := P) (w := w) (K := K) (mg := mg) (base := base) (f := f) (cdv := cdv) (A := A) (outer := outer) (s := s) (H := H) (E := E) sc_line_of hr
    exact (d_scons (d_asg (d_var (pv 0)) (d_gTup hu.calm (d_gC (d_gName hu.nd rfl (by first | exact Or.inl rfl | exact Or.inr rfl) (by first | exact Or.inl rfl | exact Or.inr rfl)) (d_gC (d_gName hu.nd rfl (by first | exact Or.inl rfl | exact Or.inr rfl) (by first | exact Or.inl rfl | exact Or.inr rfl)) (d_gC (d_gName hu.nd rfl (by first | exact Or.inl rfl | exact Or.inr rfl) (by first | exact Or.inl rfl | exact Or.inr rfl)) d_gN)))))
      (d_scons (d_ifS (d_tcmp (op_eqD hu.un) psem_eq (d_loc (pv 2)) (d_val (d_glob rfl T.c_SET fun _ => .str _)) (nomark _)) (d_sone (d_ret (d_add (d_val (d_add (d_loc (pv 1)) (d_val d_str))) (d_val (d_callP hu C_text_of (hr.mono (by omega)) rfl (d_cons (d_var (pv 3)) d_nil)))))) d_snil)
      (d_scons (d_ifS (d_tcmp (op_inA hu.un) psem_in (d_loc (pv 2)) (d_val (d_globT rfl T.c_CALLS fun _ => (.cons (.str _) (.cons (.str _) .nil)))) (by rfl)) (d_sone (d_ret (d_add (d_val (d_add (d_val (d_add (d_val (d_add (d_val (d_add (d_loc (pv 1)) (d_val d_str))) (d_loc (pv 2)))) (d_val d_str))) (d_val (d_callP hu C_text_of (hr.mono (by omega)) rfl (d_cons (d_var (pv 3)) d_nil))))) (d_val d_str)))) d_snil)
      (d_sone (d_ret (d_add (d_val (d_add (d_val (d_add (d_val (d_add (d_loc (pv 1)) (d_val d_str))) (d_val (d_callP hu C_sign_of (hr.mono (by omega)) rfl (d_cons (d_var (pv 2)) d_nil))))) (d_val d_str))) (d_val (d_callP hu C_text_of (hr.mono (by omega)) rfl (d_cons (d_var (pv 3)) d_nil)))))))))
theorem w_script_text (T : Tx K mg) (F : Fn K mg "script_text" st_script_text ["script"]) (C_looked_scripts : CalS P w K mg base "looked_scripts" 46 (spS ⟨K, ⟨exA K, []⟩⟩ (m_looked_scripts))) (C_line_of : Cal P w K mg base "line_of" 43 (spP ⟨K, ⟨exA K, []⟩⟩ 1 (m_line_of))) : Cal P w K mg base "script_text" 47 (spP ⟨K, ⟨exA K, []⟩⟩ 1 m_script_text) :=
  cal_P (exA K) F sc_script_text fun f cdv A outer s H E hr => by
    have hu := at_def (P := P) (w := w) (K := K) (mg := mg) (base := base) (f := f) (cdv := cdv) (A := A) (outer := outer) (s := s) (H := H) (E := E) sc_script_text hr
    exact (d_scons (d_expr (d_callS hu C_looked_scripts (hr.mono (by omega)) rfl (d_cons (d_var (pv 0)) d_nil)))
      (d_sone (d_ret (d_join d_str (d_fz (d_compF (own := [("step", 1)]) hu (d_iAny (d_var (pv 0))) (blkOk_by (N := ["script", "step"]) (sc := defScope st_script_text) (own := [("step", 1)]) (by decide +kernel)) (fun _ _ _ _ _ => (d_gName (at_blk hu).nd rfl (by first | exact Or.inl rfl | exact Or.inr rfl) (by first | exact Or.inl rfl | exact Or.inr rfl))) (fun _ _ _ _ _ => pts_nilT) (fun _ _ _ _ _ => (d_callP (at_blk hu) C_line_of (hr.mono (by omega)) rfl (d_cons (d_var (pv 1)) d_nil))) (by decide)))))))
theorem w_parted (T : Tx K mg) (F : Fn K mg "parted" st_parted ["text", "sign"]) : Cal P w K mg base "parted" 1 (spP ⟨K, ⟨exA K, []⟩⟩ 2 m_parted) :=
  cal_P (exA K) F sc_parted fun f cdv A outer s H E hr => by
    have hu := at_def (P := P) (w := w) (K := K) (mg := mg) (base := base) (f := f) (cdv := cdv) (A := A) (outer := outer) (s := s) (H := H) (E := E) sc_parted hr
    exact (d_scons (d_parF hu rfl rfl (by decide) rfl rfl (d_lstF d_nil) d_int (by rfl))
      (d_scons (d_for hu (passes_of rfl) (d_iRng1 rfl T.n_range (d_cons (d_callB call_lenA psem_len rfl T.n_len (d_bcons (d_loc (pv 0)) d_bnil)) d_nil)) (d_gName hu.nd rfl (by first | exact Or.inl rfl | exact Or.inr rfl) (by first | exact Or.inl rfl | exact Or.inr rfl)) (d_sone (d_ifS (d_tcmp (op_eqD hu.un) psem_eq (d_val (d_idx hu (d_loc (pv 0)) (d_loc (pv 2)))) (d_val d_str) (nomark _)) (d_sone (d_augI hu rfl (by first | exact Or.inl rfl | exact Or.inr rfl) d_int ip_add)) (d_sone (d_ifS (d_tcmp (op_eqD hu.un) psem_eq (d_val (d_idx hu (d_loc (pv 0)) (d_loc (pv 2)))) (d_val d_str) (nomark _)) (d_sone (d_augI hu rfl (by first | exact Or.inl rfl | exact Or.inr rfl) d_int ip_sub)) (d_sone (d_ifS (PW.pt (d_wand (d_tcmp (op_eqD hu.un) psem_eq (d_loc (pv 4)) (d_val d_int) (nomark _)) (d_wand1 (d_tcmp (op_eqD hu.un) psem_eq (d_val (d_slice (d_loc (pv 0)) (d_pe (d_var (pv 2))) (d_pe (d_add (d_loc (pv 2)) (d_val (d_callB call_lenA psem_len rfl T.n_len (d_bcons (d_loc (pv 1)) d_bnil))))))) (d_loc (pv 1)) (nomark _))))) (d_sone (d_expr (d_mut PySem.F.slot_list_append PySem.F.type_list_append mt_append lmut_append (pv 3) (d_cons (d_var (pv 2)) d_nil)))) d_snil)))))))
      (d_sone (d_ret (d_var (pv 3))))))
theorem w_read (T : Tx K mg) (F : Fn K mg "read" st_read ["text", "deep"]) (C_parted : Cal P w K mg base "parted" 1 (spP ⟨K, ⟨exA K, []⟩⟩ 2 (m_parted))) : ∀ n : Nat, Cal P w K mg base "read" (1 + n + 1) (spP ⟨K, ⟨exA K, []⟩⟩ 2 (m_read n))
  | 0 => cal_P0 _ (exA K) F sc_read
  | n + 1 => by
    have ih := w_read T F C_parted n
    exact cal_P (exA K) F sc_read fun f cdv A outer s H E hr => by
      have hu := at_def (P := P) (w := w) (K := K) (mg := mg) (base := base) (f := f) (cdv := cdv) (A := A) (outer := outer) (s := s) (H := H) (E := E) sc_read hr
      exact (d_scons (d_ifS (d_tcmp op_gtA psem_ord (d_loc (pv 1)) (d_val d_int) (nomark _)) (d_sone (d_ret d_non)) d_snil)
      (d_scons (d_for hu (passes_of rfl) (d_iAny (d_globT rfl T.c_CALLS fun _ => (.cons (.str _) (.cons (.str _) .nil)))) (d_gName hu.nd rfl (by first | exact Or.inl rfl | exact Or.inr rfl) (by first | exact Or.inl rfl | exact Or.inr rfl)) (d_sone (d_ifS (PW.pt (d_wand (d_tru (d_val (d_m1 PySem.F.slot_str_startswith PySem.F.type_str_startswith mt_startswith m1_starts (d_var (pv 0)) (d_add (d_loc (pv 2)) (d_val d_str))))) (d_wand1 (d_tru (d_val (d_m1 PySem.F.slot_str_endswith PySem.F.type_str_endswith mt_endswith m1_ends (d_var (pv 0)) d_str)))))) (d_scons (d_set hu rfl (by first | exact Or.inl rfl | exact Or.inr rfl) (d_slice (d_loc (pv 0)) (d_pe (d_add (d_val (d_callB call_lenA psem_len rfl T.n_len (d_bcons (d_loc (pv 2)) d_bnil))) (d_val d_int))) (d_pe (d_neg (d_val d_int)))))
      (d_scons (d_set hu rfl (by first | exact Or.inl rfl | exact Or.inr rfl) (d_callP hu C_parted (hr.mono (by omega)) rfl (d_cons (d_var (pv 3)) (d_cons d_str d_nil))))
      (d_scons (d_ifS (d_tcmp (op_eqD hu.un) psem_eq (d_val (d_callB call_lenA psem_len rfl T.n_len (d_bcons (d_loc (pv 5)) d_bnil))) (d_val d_int) (nomark _)) (d_sone (d_ret (d_tup (d_cons (d_var (pv 2)) (d_cons (d_callP hu ih hr rfl (d_cons (d_slice (d_loc (pv 3)) d_pn (d_pe (d_idx hu (d_loc (pv 5)) (d_val d_int)))) (d_cons (d_add (d_loc (pv 1)) (d_val d_int)) d_nil))) (d_cons (d_callP hu ih hr rfl (d_cons (d_slice (d_loc (pv 3)) (d_pe (d_add (d_val (d_idx hu (d_loc (pv 5)) (d_val d_int))) (d_val d_int))) d_pn) (d_cons (d_add (d_loc (pv 1)) (d_val d_int)) d_nil))) d_nil)))))) d_snil)
      (d_sone (d_ret d_non))))) d_snil)))
      (d_scons (d_ifS (PW.pt (d_wor (d_tnot (d_tru (d_val (d_m1 PySem.F.slot_str_startswith PySem.F.type_str_startswith mt_startswith m1_starts (d_var (pv 0)) d_str)))) (d_wor1 (d_tnot (d_tru (d_val (d_m1 PySem.F.slot_str_endswith PySem.F.type_str_endswith mt_endswith m1_ends (d_var (pv 0)) d_str))))))) (d_sone (d_ret (d_tup (d_cons d_str (d_cons (d_var (pv 0)) d_nil))))) d_snil)
      (d_scons (d_set hu rfl (by first | exact Or.inl rfl | exact Or.inr rfl) (d_slice (d_loc (pv 0)) (d_pe d_int) (d_pe (d_neg (d_val d_int)))))
      (d_scons (d_for hu (passes_of rfl) (d_iAny (d_pairs rfl T.c_SIGNS)) (d_gTup hu.calm (d_gC (d_gName hu.nd rfl (by first | exact Or.inl rfl | exact Or.inr rfl) (by first | exact Or.inl rfl | exact Or.inr rfl)) (d_gC (d_gName hu.nd rfl (by first | exact Or.inl rfl | exact Or.inr rfl) (by first | exact Or.inl rfl | exact Or.inr rfl)) d_gN))) (d_scons (d_set hu rfl (by first | exact Or.inl rfl | exact Or.inr rfl) (d_callP hu C_parted (hr.mono (by omega)) rfl (d_cons (d_var (pv 3)) (d_cons (d_add (d_val (d_add (d_val d_str) (d_loc (pv 4)))) (d_val d_str)) d_nil))))
      (d_sone (d_ifS (d_tcmp (op_eqD hu.un) psem_eq (d_val (d_callB call_lenA psem_len rfl T.n_len (d_bcons (d_loc (pv 5)) d_bnil))) (d_val d_int) (nomark _)) (d_sone (d_ret (d_tup (d_cons (d_var (pv 2)) (d_cons (d_callP hu ih hr rfl (d_cons (d_slice (d_loc (pv 3)) d_pn (d_pe (d_idx hu (d_loc (pv 5)) (d_val d_int)))) (d_cons (d_add (d_loc (pv 1)) (d_val d_int)) d_nil))) (d_cons (d_callP hu ih hr rfl (d_cons (d_slice (d_loc (pv 3)) (d_pe (d_add (d_val (d_idx hu (d_loc (pv 5)) (d_val d_int))) (d_val d_int))) d_pn) (d_cons (d_add (d_loc (pv 1)) (d_val d_int)) d_nil))) d_nil)))))) d_snil))))
      (d_scons (d_ifS (d_tcmp (op_inA hu.un) psem_in (d_val (d_slice (d_loc (pv 3)) d_pn (d_pe d_int))) (d_val (d_tup (d_cons d_str (d_cons d_str d_nil)))) (by rfl)) (d_sone (d_ret (d_tup (d_cons (d_if (d_tcmp (op_eqD hu.un) psem_eq (d_val (d_idx hu (d_loc (pv 3)) (d_val d_int))) (d_val d_str) (nomark _)) d_str d_str) (d_cons (d_callP hu ih hr rfl (d_cons (d_slice (d_loc (pv 3)) (d_pe d_int) d_pn) (d_cons (d_add (d_loc (pv 1)) (d_val d_int)) d_nil))) d_nil))))) d_snil)
      (d_sone (d_ret d_non))))))))
theorem w_read_expression (T : Tx K mg) (F : Fn K mg "read_expression" st_read_expression ["text"]) (C_read : Cal P w K mg base "read" 42 (spP ⟨K, ⟨exA K, []⟩⟩ 2 (m_read 40))) (C_is_expression : Cal P w K mg base "is_expression" 43 (spP ⟨K, ⟨exA K, []⟩⟩ 1 (m_is_expression))) (C_text_of : Cal P w K mg base "text_of" 42 (spP ⟨K, ⟨exA K, []⟩⟩ 1 (m_text_of 40))) : Cal P w K mg base "read_expression" 44 (spP ⟨K, ⟨exA K, []⟩⟩ 1 m_read_expression) :=
  cal_P (exA K) F sc_read_expression fun f cdv A outer s H E hr => by
    have hu := at_def (P := P) (w := w) (K := K) (mg := mg) (base := base) (f := f) (cdv := cdv) (A := A) (outer := outer) (s := s) (H := H) (E := E) sc_read_expression hr
    exact (d_scons (d_ifS (d_tnot (d_tru (d_val (d_isi1 rfl T.n_isinstance (by decide) rfl T.n_str (d_loc (pv 0)))))) (d_sone (d_raise hu T.k_NoText rfl)) d_snil)
      (d_scons (d_set hu rfl (by first | exact Or.inl rfl | exact Or.inr rfl) (d_callP hu C_read (hr.mono (by omega)) rfl (d_cons (d_var (pv 0)) (d_cons d_int d_nil))))
      (d_scons (d_ifS (PW.pt (d_wor (d_tnot (d_tru (d_val (d_callP hu C_is_expression (hr.mono (by omega)) rfl (d_cons (d_var (pv 1)) d_nil))))) (d_wor1 (d_tcmp (op_neD hu.un) psem_ne (d_val (d_callP hu C_text_of (hr.mono (by omega)) rfl (d_cons (d_var (pv 1)) d_nil))) (d_loc (pv 0)) (nomark _))))) (d_sone (d_raise hu T.k_NoText rfl)) d_snil)
      (d_sone (d_ret (d_var (pv 1)))))))
theorem w_read_line (T : Tx K mg) (F : Fn K mg "read_line" st_read_line ["line"]) (C_read : Cal P w K mg base "read" 42 (spP ⟨K, ⟨exA K, []⟩⟩ 2 (m_read 40))) : Cal P w K mg base "read_line" 43 (spP ⟨K, ⟨exA K, []⟩⟩ 1 m_read_line) :=
  cal_P (exA K) F sc_read_line fun f cdv A outer s H E hr => by
    have hu := at_def (P := P) (w := w) (K := K) (mg := mg) (base := base) (f := f) (cdv := cdv) (A := A) (outer := outer) (s := s) (H := H) (E := E) sc_read_line hr
    exact (d_scons (d_for hu (passes_of rfl) (d_iAny (d_globT rfl T.c_CALLS fun _ => (.cons (.str _) (.cons (.str _) .nil)))) (d_gName hu.nd rfl (by first | exact Or.inl rfl | exact Or.inr rfl) (by first | exact Or.inl rfl | exact Or.inr rfl)) (d_scons (d_asg (d_m1 PySem.F.slot_str_partition PySem.F.type_str_partition mt_partition m1_part (d_var (pv 0)) (d_add (d_val (d_add (d_val d_str) (d_loc (pv 1)))) (d_val d_str))) (d_gTup hu.calm (d_gC (d_gName hu.nd rfl (by first | exact Or.inl rfl | exact Or.inr rfl) (by first | exact Or.inl rfl | exact Or.inr rfl)) (d_gC (d_gName hu.nd rfl (by first | exact Or.inl rfl | exact Or.inr rfl) (by first | exact Or.inl rfl | exact Or.inr rfl)) (d_gC (d_gName hu.nd rfl (by first | exact Or.inl rfl | exact Or.inr rfl) (by first | exact Or.inl rfl | exact Or.inr rfl)) d_gN)))))
      (d_sone (d_ifS (PW.pt (d_wand (d_tcmp (op_neD hu.un) psem_ne (d_loc (pv 6)) (d_val d_str) (nomark _)) (d_wand1 (d_tru (d_val (d_m1 PySem.F.slot_str_endswith PySem.F.type_str_endswith mt_endswith m1_ends (d_var (pv 4)) d_str)))))) (d_sone (d_ret (d_tup (d_cons (d_var (pv 2)) (d_cons (d_var (pv 1)) (d_cons (d_callP hu C_read (hr.mono (by omega)) rfl (d_cons (d_slice (d_loc (pv 4)) d_pn (d_pe (d_neg (d_val d_int)))) (d_cons d_int d_nil))) d_nil)))))) d_snil))))
      (d_scons (d_asg (d_m1 PySem.F.slot_str_partition PySem.F.type_str_partition mt_partition m1_part (d_var (pv 0)) d_str) (d_gTup hu.calm (d_gC (d_gName hu.nd rfl (by first | exact Or.inl rfl | exact Or.inr rfl) (by first | exact Or.inl rfl | exact Or.inr rfl)) (d_gC (d_gName hu.nd rfl (by first | exact Or.inl rfl | exact Or.inr rfl) (by first | exact Or.inl rfl | exact Or.inr rfl)) (d_gC (d_gName hu.nd rfl (by first | exact Or.inl rfl | exact Or.inr rfl) (by first | exact Or.inl rfl | exact Or.inr rfl)) d_gN)))))
      (d_scons (d_ifS (d_tcmp (op_neD hu.un) psem_ne (d_loc (pv 3)) (d_val d_str) (nomark _)) (d_sone (d_ret (d_tup (d_cons (d_var (pv 2)) (d_cons (d_glob rfl T.c_SET fun _ => .str _) (d_cons (d_callP hu C_read (hr.mono (by omega)) rfl (d_cons (d_var (pv 4)) (d_cons d_int d_nil))) d_nil)))))) d_snil)
      (d_scons (d_for hu (passes_of rfl) (d_iAny (d_pairs rfl T.c_SIGNS)) (d_gTup hu.calm (d_gC (d_gName hu.nd rfl (by first | exact Or.inl rfl | exact Or.inr rfl) (by first | exact Or.inl rfl | exact Or.inr rfl)) (d_gC (d_gName hu.nd rfl (by first | exact Or.inl rfl | exact Or.inr rfl) (by first | exact Or.inl rfl | exact Or.inr rfl)) d_gN))) (d_scons (d_asg (d_m1 PySem.F.slot_str_partition PySem.F.type_str_partition mt_partition m1_part (d_var (pv 0)) (d_add (d_val (d_add (d_val d_str) (d_loc (pv 5)))) (d_val d_str))) (d_gTup hu.calm (d_gC (d_gName hu.nd rfl (by first | exact Or.inl rfl | exact Or.inr rfl) (by first | exact Or.inl rfl | exact Or.inr rfl)) (d_gC (d_gName hu.nd rfl (by first | exact Or.inl rfl | exact Or.inr rfl) (by first | exact Or.inl rfl | exact Or.inr rfl)) (d_gC (d_gName hu.nd rfl (by first | exact Or.inl rfl | exact Or.inr rfl) (by first | exact Or.inl rfl | exact Or.inr rfl)) d_gN)))))
      (d_sone (d_ifS (d_tcmp (op_neD hu.un) psem_ne (d_loc (pv 3)) (d_val d_str) (nomark _)) (d_sone (d_ret (d_tup (d_cons (d_var (pv 2)) (d_cons (d_var (pv 1)) (d_cons (d_callP hu C_read (hr.mono (by omega)) rfl (d_cons (d_var (pv 4)) (d_cons d_int d_nil))) d_nil)))))) d_snil))))
      (d_sone (d_ret d_non))))))
theorem w_read_script (T : Tx K mg) (F : Fn K mg "read_script" st_read_script ["text"]) (C_is_script : Cal P w K mg base "is_script" 45 (spP ⟨K, ⟨exA K, []⟩⟩ 1 (m_is_script))) (C_read_line : Cal P w K mg base "read_line" 43 (spP ⟨K, ⟨exA K, []⟩⟩ 1 (m_read_line))) (C_line_of : Cal P w K mg base "line_of" 43 (spP ⟨K, ⟨exA K, []⟩⟩ 1 (m_line_of))) : Cal P w K mg base "read_script" 46 (spP ⟨K, ⟨exA K, []⟩⟩ 1 m_read_script) :=
  cal_P (exA K) F sc_read_script fun f cdv A outer s H E hr => by
    have hu := at_def (P := P) (w := w) (K := K) (mg := mg) (base := base) (f := f) (cdv := cdv) (A := A) (outer := outer) (s := s) (H := H) (E := E) sc_read_script hr
    exact (d_scons (d_ifS (d_tnot (d_tru (d_val (d_isi1 rfl T.n_isinstance (by decide) rfl T.n_str (d_loc (pv 0)))))) (d_sone (d_raise hu T.k_NoText rfl)) d_snil)
      (d_scons (d_set hu rfl (by first | exact Or.inl rfl | exact Or.inr rfl) (d_if (d_tcmp (op_eqD hu.un) psem_eq (d_loc (pv 0)) (d_val d_str) (nomark _)) (d_tup d_nil) (d_callTy call_tupleZ psem_tuple rfl T.n_tuple (d_bcons (d_val (d_fz (d_compF (own := [("line", 2)]) hu (d_iAny (d_m1 PySem.F.slot_str_split PySem.F.type_str_split mt_split m1_split (d_var (pv 0)) d_str)) (blkOk_by (N := ["text", "found", "line", "step"]) (sc := defScope st_read_script) (own := [("line", 2)]) (by decide +kernel)) (fun _ _ _ _ _ => (d_gName (at_blk hu).nd rfl (by first | exact Or.inl rfl | exact Or.inr rfl) (by first | exact Or.inl rfl | exact Or.inr rfl))) (fun _ _ _ _ _ => pts_nilT) (fun _ _ _ _ _ => (d_callP (at_blk hu) C_read_line (hr.mono (by omega)) rfl (d_cons (d_var (pv 2)) d_nil))) (by decide)))) d_bnil))))
      (d_scons (d_ifS (PW.pt (d_wor (d_tnot (d_tru (d_val (d_callP hu C_is_script (hr.mono (by omega)) rfl (d_cons (d_var (pv 1)) d_nil))))) (d_wor1 (d_tcmp (op_neD hu.un) psem_ne (d_val (d_join d_str (d_fz (d_compF (own := [("step", 3)]) hu (d_iAny (d_var (pv 1))) (blkOk_by (N := ["text", "found", "line", "step"]) (sc := defScope st_read_script) (own := [("step", 3)]) (by decide +kernel)) (fun _ _ _ _ _ => (d_gName (at_blk hu).nd rfl (by first | exact Or.inl rfl | exact Or.inr rfl) (by first | exact Or.inl rfl | exact Or.inr rfl))) (fun _ _ _ _ _ => pts_nilT) (fun _ _ _ _ _ => (d_callP (at_blk hu) C_line_of (hr.mono (by omega)) rfl (d_cons (d_var (pv 3)) d_nil))) (by decide))))) (d_loc (pv 0)) (nomark _))))) (d_sone (d_raise hu T.k_NoText rfl)) d_snil)
      (d_sone (d_ret (d_var (pv 1)))))))
theorem w_law (T : Tx K mg) {fa c Tb : Addr} {kV doc pm ct oc : Value} {an od : Option Addr} {osl : Array (Option Value)} (lk : K.lookup fa = some ⟨oc, od, .func (PySem.W.fnOf "law" "law" (defArgs st_law) (defBody st_law) (defScope st_law) .none kV doc pm an (.ref c) ct), osl⟩) (hcd : PySem.W.codeIn K (.ref c) "law" = true) (TB : LamX.TabB base mg c Tb) (C_L_sum : Cal P w K mg base "_law_sum" 43 (spI ⟨K, ⟨exA K, []⟩⟩ 3 (m_L_sum 40))) (C_L_script : Cal P w K mg base "_law_script" 45 (spI ⟨K, ⟨exA K, []⟩⟩ 3 (m_L_script))) (C_L_bent : Cal P w K mg base "_law_bent" 3 (spI ⟨K, ⟨exA K, []⟩⟩ 2 (m_L_bent))) (N_tried : Fn K mg "_law_tried" st_L_tried ["_law_call"]) (W_word : WordAt P w K mg base 1 "_law_word" (GoodW K)) (C_expression_text : Cal P w K mg base "expression_text" 45 (spP ⟨K, ⟨exA K, []⟩⟩ 1 (m_expression_text))) (C_script_text : Cal P w K mg base "script_text" 47 (spP ⟨K, ⟨exA K, []⟩⟩ 1 (m_script_text))) (C_L_draw : Cal P w K mg base "_law_draw" 1 (spI ⟨K, ⟨exA K, []⟩⟩ 2 (m_L_draw))) (C_read_expression : Cal P w K mg base "read_expression" 44 (spP ⟨K, ⟨exA K, []⟩⟩ 1 (m_read_expression))) (C_read_script : Cal P w K mg base "read_script" 46 (spP ⟨K, ⟨exA K, []⟩⟩ 1 (m_read_script))) (C_is_expression : Cal P w K mg base "is_expression" 43 (spP ⟨K, ⟨exA K, []⟩⟩ 1 (m_is_expression))) (C_is_script : Cal P w K mg base "is_script" 45 (spP ⟨K, ⟨exA K, []⟩⟩ 1 (m_is_script))) : FnOk P w K mg base (L2N.CX P w) 49 fa (PySem.W.fnOf "law" "law" (defArgs st_law) (defBody st_law) (defScope st_law) .none kV doc pm an (.ref c) ct) ["_law_script_here"] (spT K Tb m_law) :=
  law_T lk hcd sc_law fun A outer s H E hr => by
    have hu := at_def (P := P) (w := w) (K := K) (mg := mg) (base := base) (f := fa) (cdv := .ref c) (A := A) (outer := outer) (s := s) (H := H) (E := E) sc_law hr
    exact (d_scons (d_setF hu rfl (by first | exact Or.inl rfl | exact Or.inr rfl) (d_lstF (d_cons (d_fz (d_callTyF (call_listA hu.calm) fsem_list rfl T.n_list (d_bcons (d_loc (pv 0)) d_bnil))) (d_cons d_int (d_cons d_int d_nil)))))
      (d_scons (d_for hu (passes_of rfl) (d_iRng1 rfl T.n_range (d_cons d_int d_nil)) (d_gName hu.nd rfl (by first | exact Or.inl rfl | exact Or.inr rfl) (by first | exact Or.inl rfl | exact Or.inr rfl)) (d_scons (d_setF hu rfl (by first | exact Or.inl rfl | exact Or.inr rfl) (d_lstF (d_cons d_str (d_cons d_str (d_cons d_str d_nil)))))
      (d_scons (d_par hu rfl rfl (by decide) rfl rfl (d_cons (d_callI hu C_L_sum (hr.mono (by omega)) rfl (pv 1) (d_cons (d_var (pv 4)) (d_cons (d_add (d_val d_int) (d_val (d_callI hu C_L_draw (hr.mono (by omega)) rfl (pv 1) (d_cons d_int d_nil)))) d_nil))) (d_cons (d_callI hu C_L_script (hr.mono (by omega)) rfl (pv 1) (d_cons (d_var (pv 4)) (d_cons d_int d_nil))) d_nil)) rfl)
      (d_scons (d_for hu (passes_of rfl) (d_iRng1 rfl T.n_range (d_cons d_int d_nil)) (d_gName hu.nd rfl (by first | exact Or.inl rfl | exact Or.inr rfl) (by first | exact Or.inl rfl | exact Or.inr rfl)) (d_scons (d_set hu rfl (by first | exact Or.inl rfl | exact Or.inr rfl) (d_callI hu C_L_bent (hr.mono (by omega)) rfl (pv 1) (d_cons (d_callP hu C_expression_text (hr.mono (by omega)) rfl (d_cons (d_var (pv 7)) d_nil)) d_nil)))
      (d_scons (d_set hu rfl (by first | exact Or.inl rfl | exact Or.inr rfl) (d_tried (k := 46) (kw := 1) hu TB rfl N_tried sc_L_tried hr rfl rfl T.m_CountError rfl rfl rfl rfl W_word (by decide) (hwd_ok T) (LamX.lamS_by (sc := defScope st_law) (by decide +kernel)) rfl (fun _ _ _ _ _ => rfl) (fun A outer s H E f c' hr => by have hu2 := at_lam (outer := outer) (H := H) (E := E) (f := f) (c := c') hu.nd hr; exact (d_callP hu2 C_read_expression (hr.mono (by omega)) rfl (d_cons (d_var (pv 9)) d_nil)))))
      (d_scons (d_ifS (d_tru (d_val (d_isi1 rfl T.n_isinstance (by decide) rfl T.n_tuple (d_loc (pv 10))))) (d_sone (d_ifS (PW.pt (d_wor (d_tcmp op_isNotA psem_isNot (d_val (d_callP hu C_is_expression (hr.mono (by omega)) rfl (d_cons (d_var (pv 10)) d_nil))) (d_val d_bl) (nomark _)) (d_wor1 (d_tcmp (op_neD hu.un) psem_ne (d_val (d_callP hu C_expression_text (hr.mono (by omega)) rfl (d_cons (d_var (pv 10)) d_nil))) (d_loc (pv 9)) (nomark _))))) (d_sone (d_ret d_bl)) d_snil)) (d_sone (d_ifS (PW.pt (d_wor (d_tcmp (op_neD hu.un) psem_ne (d_loc (pv 10)) (d_val d_str) (nomark _)) (d_wor1 (d_tcmp (op_eqD hu.un) psem_eq (d_loc (pv 9)) (d_val (d_callP hu C_expression_text (hr.mono (by omega)) rfl (d_cons (d_var (pv 7)) d_nil))) (nomark _))))) (d_sone (d_ret d_bl)) d_snil)))
      (d_scons (d_set hu rfl (by first | exact Or.inl rfl | exact Or.inr rfl) (d_callI hu C_L_bent (hr.mono (by omega)) rfl (pv 1) (d_cons (d_callP hu C_script_text (hr.mono (by omega)) rfl (d_cons (d_var (pv 8)) d_nil)) d_nil)))
      (d_scons (d_set hu rfl (by first | exact Or.inl rfl | exact Or.inr rfl) (d_tried (k := 46) (kw := 1) hu TB rfl N_tried sc_L_tried hr rfl rfl T.m_CountError rfl rfl rfl rfl W_word (by decide) (hwd_ok T) (LamX.lamS_by (sc := defScope st_law) (by decide +kernel)) rfl (fun _ _ _ _ _ => rfl) (fun A outer s H E f c' hr => by have hu2 := at_lam (outer := outer) (H := H) (E := E) (f := f) (c := c') hu.nd hr; exact (d_callP hu2 C_read_script (hr.mono (by omega)) rfl (d_cons (d_var (pv 9)) d_nil)))))
      (d_sone (d_ifS (d_tru (d_val (d_isi1 rfl T.n_isinstance (by decide) rfl T.n_tuple (d_loc (pv 10))))) (d_sone (d_ifS (PW.pt (d_wor (d_tcmp op_isNotA psem_isNot (d_val (d_callP hu C_is_script (hr.mono (by omega)) rfl (d_cons (d_var (pv 10)) d_nil))) (d_val d_bl) (nomark _)) (d_wor1 (d_tcmp (op_neD hu.un) psem_ne (d_val (d_callP hu C_script_text (hr.mono (by omega)) rfl (d_cons (d_var (pv 10)) d_nil))) (d_loc (pv 9)) (nomark _))))) (d_sone (d_ret d_bl)) d_snil)) (d_sone (d_ifS (d_tcmp (op_neD hu.un) psem_ne (d_loc (pv 10)) (d_val d_str) (nomark _)) (d_sone (d_ret d_bl)) d_snil))))))))))
      (d_sone (d_for hu (passes_of rfl) (d_iAny (d_fz (d_lstF (d_cons d_non (d_cons d_int (d_cons (d_fz (d_lstF (d_cons d_str d_nil))) (d_cons (d_var (pv 7)) (d_cons d_bl d_nil)))))))) (d_gName hu.nd rfl (by first | exact Or.inl rfl | exact Or.inr rfl) (by first | exact Or.inl rfl | exact Or.inr rfl)) (d_scons (d_ifS (d_tcmp (op_neD hu.un) psem_ne (d_val (d_tried (k := 46) (kw := 1) hu TB rfl N_tried sc_L_tried hr rfl rfl T.m_CountError rfl rfl rfl rfl W_word (by decide) (hwd_ok T) (LamX.lamS_by (sc := defScope st_law) (by decide +kernel)) rfl (fun _ _ _ _ _ => rfl) (fun A outer s H E f c' hr => by have hu2 := at_lam (outer := outer) (H := H) (E := E) (f := f) (c := c') hu.nd hr; exact (d_callP hu2 C_read_expression (hr.mono (by omega)) rfl (d_cons (d_var (pv 6)) d_nil))))) (d_val d_str) (nomark _)) (d_sone (d_ret d_bl)) d_snil)
      (d_sone (d_ifS (d_tcmp (op_neD hu.un) psem_ne (d_val (d_tried (k := 46) (kw := 1) hu TB rfl N_tried sc_L_tried hr rfl rfl T.m_CountError rfl rfl rfl rfl W_word (by decide) (hwd_ok T) (LamX.lamS_by (sc := defScope st_law) (by decide +kernel)) rfl (fun _ _ _ _ _ => rfl) (fun A outer s H E f c' hr => by have hu2 := at_lam (outer := outer) (H := H) (E := E) (f := f) (c := c') hu.nd hr; exact (d_callP hu2 C_read_script (hr.mono (by omega)) rfl (d_cons (d_var (pv 6)) d_nil))))) (d_val d_str) (nomark _)) (d_sone (d_ret d_bl)) d_snil)))))))))
      (d_scons (d_setF hu rfl (by first | exact Or.inl rfl | exact Or.inr rfl) (d_lstF (d_cons d_str (d_cons d_str (d_cons d_str (d_cons d_str (d_cons d_str (d_cons d_str (d_cons d_str (d_cons d_str (d_cons d_str (d_cons d_str d_nil))))))))))))
      (d_scons (d_expr (d_mut PySem.F.slot_list_append PySem.F.type_list_append mt_append lmut_append (pv 3) (d_cons d_str d_nil)))
      (d_scons (d_ifS (d_tcmp (op_neD hu.un) psem_ne (d_val (d_fz (d_compF (own := [("_law_text", 9)]) hu (d_iAny (d_var (pv 3))) (blkOk_by (N := ["_law_script_here", "_law_tape", "_law_turn", "_law_wrong", "_law_names", "_law_change", "_law_odd", "_law_e", "_law_some", "_law_text", "_law_told"]) (sc := defScope st_law) (own := [("_law_text", 9)]) (by decide +kernel)) (fun _ _ _ _ _ => (d_gName (at_blk hu).nd rfl (by first | exact Or.inl rfl | exact Or.inr rfl) (by first | exact Or.inl rfl | exact Or.inr rfl))) (fun _ _ _ _ _ => (pts_one (d_tcmp (op_neD (at_blk hu).un) psem_ne (d_val (d_tried (k := 46) (kw := 1) (at_blk hu) TB rfl N_tried sc_L_tried hr rfl rfl T.m_CountError rfl rfl rfl rfl W_word (by decide) (hwd_ok T) (LamX.lamS_by (sc := L2.relS _ (defScope st_law)) (by decide +kernel)) rfl (fun _ _ _ _ _ => rfl) (fun A outer s H E f c' hr => by have hu2 := at_lam (outer := outer) (H := H) (E := E) (f := f) (c := c') (at_blk hu).nd hr; exact (d_callP hu2 C_read_expression (hr.mono (by omega)) rfl (d_cons (d_var (pv 9)) d_nil))))) (d_val d_str) (nomark _)))) (fun _ _ _ _ _ => (d_var (pv 9))) (by decide)))) (d_val (d_fz (d_lstF d_nil))) (nomark _)) (d_sone (d_ret d_bl)) d_snil)
      (d_scons (d_setF hu rfl (by first | exact Or.inl rfl | exact Or.inr rfl) (d_lstF (d_cons d_str (d_cons d_str (d_cons d_str (d_cons d_str (d_cons d_str (d_cons d_str (d_cons d_str (d_cons d_str (d_cons d_str d_nil)))))))))))
      (d_sone (d_ret (d_cmp (op_eqD hu.un) psem_eq (d_val (d_fz (d_compF (own := [("_law_text", 9)]) hu (d_iAny (d_var (pv 3))) (blkOk_by (N := ["_law_script_here", "_law_tape", "_law_turn", "_law_wrong", "_law_names", "_law_change", "_law_odd", "_law_e", "_law_some", "_law_text", "_law_told"]) (sc := defScope st_law) (own := [("_law_text", 9)]) (by decide +kernel)) (fun _ _ _ _ _ => (d_gName (at_blk hu).nd rfl (by first | exact Or.inl rfl | exact Or.inr rfl) (by first | exact Or.inl rfl | exact Or.inr rfl))) (fun _ _ _ _ _ => (pts_one (d_tcmp (op_neD (at_blk hu).un) psem_ne (d_val (d_tried (k := 46) (kw := 1) (at_blk hu) TB rfl N_tried sc_L_tried hr rfl rfl T.m_CountError rfl rfl rfl rfl W_word (by decide) (hwd_ok T) (LamX.lamS_by (sc := L2.relS _ (defScope st_law)) (by decide +kernel)) rfl (fun _ _ _ _ _ => rfl) (fun A outer s H E f c' hr => by have hu2 := at_lam (outer := outer) (H := H) (E := E) (f := f) (c := c') (at_blk hu).nd hr; exact (d_callP hu2 C_read_script (hr.mono (by omega)) rfl (d_cons (d_var (pv 9)) d_nil))))) (d_val d_str) (nomark _)))) (fun _ _ _ _ _ => (d_var (pv 9))) (by decide)))) (d_val (d_fz (d_lstF d_nil))) (nomark _))))))))))
end
section
theorem all_mk {l : PySem.W.OpenLaw} {w : World} {K : PySem.W.Frag} {h : Heap} {mg : Str → Option Value} {fa : Addr} (X : K.In h) (G : h.Ns mainGlobals mg) (hfa : mg "law" = some (.ref fa))
    {cc PP : Addr} {ce : Value} {cdd : Option Addr} {cvs : Array Value} {csl : Array (Option Value)}
    {f0 : Addr} {od0 an0 : Option Addr} {sl0 : Array (Option Value)} {oc0 kV0 dc0 pm0 cd0 ct0 : Value}
    {f1 : Addr} {od1 an1 : Option Addr} {sl1 : Array (Option Value)} {oc1 kV1 dc1 pm1 cd1 ct1 : Value}
    {f2 : Addr} {od2 an2 : Option Addr} {sl2 : Array (Option Value)} {oc2 kV2 dc2 pm2 cd2 ct2 : Value}
    {f3 : Addr} {od3 an3 : Option Addr} {sl3 : Array (Option Value)} {oc3 kV3 dc3 pm3 cd3 ct3 : Value}
    {f4 : Addr} {od4 an4 : Option Addr} {sl4 : Array (Option Value)} {oc4 kV4 dc4 pm4 cd4 ct4 : Value}
    {f5 : Addr} {od5 an5 : Option Addr} {sl5 : Array (Option Value)} {oc5 kV5 dc5 pm5 cd5 ct5 : Value}
    {f6 : Addr} {od6 an6 : Option Addr} {sl6 : Array (Option Value)} {oc6 kV6 dc6 pm6 cd6 ct6 : Value}
    {f7 : Addr} {od7 an7 : Option Addr} {sl7 : Array (Option Value)} {oc7 kV7 dc7 pm7 cd7 ct7 : Value}
    {f8 : Addr} {od8 an8 : Option Addr} {sl8 : Array (Option Value)} {oc8 kV8 dc8 pm8 cd8 ct8 : Value}
    {f9 : Addr} {od9 an9 : Option Addr} {sl9 : Array (Option Value)} {oc9 kV9 dc9 pm9 cd9 ct9 : Value}
    {f10 : Addr} {od10 an10 : Option Addr} {sl10 : Array (Option Value)} {oc10 kV10 dc10 pm10 cd10 ct10 : Value}
    {f11 : Addr} {od11 an11 : Option Addr} {sl11 : Array (Option Value)} {oc11 kV11 dc11 pm11 cd11 ct11 : Value}
    {f12 : Addr} {od12 an12 : Option Addr} {sl12 : Array (Option Value)} {oc12 kV12 dc12 pm12 cd12 ct12 : Value}
    {f13 : Addr} {od13 an13 : Option Addr} {sl13 : Array (Option Value)} {oc13 kV13 dc13 pm13 cd13 ct13 : Value}
    {f14 : Addr} {od14 an14 : Option Addr} {sl14 : Array (Option Value)} {oc14 kV14 dc14 pm14 cd14 ct14 : Value}
    {f15 : Addr} {od15 an15 : Option Addr} {sl15 : Array (Option Value)} {oc15 kV15 dc15 pm15 cd15 ct15 : Value}
    {f16 : Addr} {od16 an16 : Option Addr} {sl16 : Array (Option Value)} {oc16 kV16 dc16 pm16 cd16 ct16 : Value}
    {f17 : Addr} {od17 an17 : Option Addr} {sl17 : Array (Option Value)} {oc17 kV17 dc17 pm17 cd17 ct17 : Value}
    {f18 : Addr} {od18 an18 : Option Addr} {sl18 : Array (Option Value)} {oc18 kV18 dc18 pm18 cd18 ct18 : Value}
    {f19 : Addr} {od19 an19 : Option Addr} {sl19 : Array (Option Value)} {oc19 kV19 dc19 pm19 cd19 ct19 : Value}
    {f20 : Addr} {od20 an20 : Option Addr} {sl20 : Array (Option Value)} {oc20 kV20 dc20 pm20 cd20 ct20 : Value}
    {f21 : Addr} {od21 an21 : Option Addr} {sl21 : Array (Option Value)} {oc21 kV21 dc21 pm21 cd21 ct21 : Value}
    {f22 : Addr} {od22 an22 : Option Addr} {sl22 : Array (Option Value)} {oc22 kV22 dc22 pm22 cd22 ct22 : Value}
    {f23 : Addr} {od23 an23 : Option Addr} {sl23 : Array (Option Value)} {oc23 kV23 dc23 pm23 cd23 ct23 : Value}
    {f24 : Addr} {od24 an24 : Option Addr} {sl24 : Array (Option Value)} {oc24 kV24 dc24 pm24 cd24 ct24 : Value}
    {f25 : Addr} {od25 an25 : Option Addr} {sl25 : Array (Option Value)} {oc25 kV25 dc25 pm25 cd25 ct25 : Value}
    {f26 : Addr} {od26 an26 : Option Addr} {sl26 : Array (Option Value)} {oc26 kV26 dc26 pm26 cd26 ct26 : Value}
    {f27 : Addr} {od27 an27 : Option Addr} {sl27 : Array (Option Value)} {oc27 kV27 dc27 pm27 ct27 : Value}
    {f28 : Addr} {od28 an28 : Option Addr} {sl28 : Array (Option Value)} {oc28 kV28 dc28 pm28 cd28 ct28 : Value}
    {f29 : Addr} {od29 an29 : Option Addr} {sl29 : Array (Option Value)} {oc29 kV29 dc29 pm29 cd29 ct29 : Value}
    {ta0 : Addr} {to0 : Option Addr} {tn0 : Nat} {ts0 : Array (Option Value)} {tk0_0 tk0_1 : Tok}
    {tk1 : Tok}
    {tk2 : Tok}
    {tk3 : Tok}
    {tk4 : Tok}
    {ta5 : Addr} {to5 : Option Addr} {tn5 : Nat} {ts5 : Array (Option Value)} {tk5_0 tk5_1 tk5_2 tk5_3 tk5_4 tk5_5 : Tok}
    {tk6 : Tok}
    {ta7 : Addr} {tn7 : Nat} {ts7 : Array (Option Value)} {tb7_0 : Addr} {to7_0 : Option Addr} {tn7_0 : Nat} {ts7_0 : Array (Option Value)} {tk7_0 tl7_0 : Tok} {tb7_1 : Addr} {to7_1 : Option Addr} {tn7_1 : Nat} {ts7_1 : Array (Option Value)} {tk7_1 tl7_1 : Tok} {tb7_2 : Addr} {to7_2 : Option Addr} {tn7_2 : Nat} {ts7_2 : Array (Option Value)} {tk7_2 tl7_2 : Tok} {tb7_3 : Addr} {to7_3 : Option Addr} {tn7_3 : Nat} {ts7_3 : Array (Option Value)} {tk7_3 tl7_3 : Tok}
    {ta8 : Addr} {to8 : Option Addr} {tn8 : Nat} {ts8 : Array (Option Value)} {tk8_0 tk8_1 : Tok}
    {e0 : Addr}
    {e1 : Addr}
    {e2 : Addr}
    {e3 : Addr}
    {e4 : Addr}
    {e5 : Addr}
    {e6 : Addr}
    {e7 : Addr}
    {e8 : Addr}
    {e9 : Addr}
    {e10 : Addr}
    (a0 : PySem.W.nsIn K mainGlobals "_law_draw" = some (some (.ref f0))) (l0 : K.lookup f0 = some ⟨oc0, od0, .func (PySem.W.fnOf "_law_draw" "_law_draw" (defArgs st_L_draw) (defBody st_L_draw) (defScope st_L_draw) .none kV0 dc0 pm0 an0 cd0 ct0), sl0⟩) (c0 : PySem.W.codeIn K cd0 "_law_draw" = true) (k0 : PySem.W.keepIn K (.ref f0) = true)
    (a1 : PySem.W.nsIn K mainGlobals "_law_of" = some (some (.ref f1))) (l1 : K.lookup f1 = some ⟨oc1, od1, .func (PySem.W.fnOf "_law_of" "_law_of" (defArgs st_L_of) (defBody st_L_of) (defScope st_L_of) .none kV1 dc1 pm1 an1 cd1 ct1), sl1⟩) (c1 : PySem.W.codeIn K cd1 "_law_of" = true) (k1 : PySem.W.keepIn K (.ref f1) = true)
    (a2 : PySem.W.nsIn K mainGlobals "_law_ways" = some (some (.ref f2))) (l2 : K.lookup f2 = some ⟨oc2, od2, .func (PySem.W.fnOf "_law_ways" "_law_ways" (defArgs st_L_ways) (defBody st_L_ways) (defScope st_L_ways) .none kV2 dc2 pm2 an2 cd2 ct2), sl2⟩) (c2 : PySem.W.codeIn K cd2 "_law_ways" = true) (k2 : PySem.W.keepIn K (.ref f2) = true)
    (a3 : PySem.W.nsIn K mainGlobals "_law_sum" = some (some (.ref f3))) (l3 : K.lookup f3 = some ⟨oc3, od3, .func (PySem.W.fnOf "_law_sum" "_law_sum" (defArgs st_L_sum) (defBody st_L_sum) (defScope st_L_sum) .none kV3 dc3 pm3 an3 cd3 ct3), sl3⟩) (c3 : PySem.W.codeIn K cd3 "_law_sum" = true) (k3 : PySem.W.keepIn K (.ref f3) = true)
    (a4 : PySem.W.nsIn K mainGlobals "_law_step" = some (some (.ref f4))) (l4 : K.lookup f4 = some ⟨oc4, od4, .func (PySem.W.fnOf "_law_step" "_law_step" (defArgs st_L_step) (defBody st_L_step) (defScope st_L_step) .none kV4 dc4 pm4 an4 cd4 ct4), sl4⟩) (c4 : PySem.W.codeIn K cd4 "_law_step" = true) (k4 : PySem.W.keepIn K (.ref f4) = true)
    (a5 : PySem.W.nsIn K mainGlobals "_law_script" = some (some (.ref f5))) (l5 : K.lookup f5 = some ⟨oc5, od5, .func (PySem.W.fnOf "_law_script" "_law_script" (defArgs st_L_script) (defBody st_L_script) (defScope st_L_script) .none kV5 dc5 pm5 an5 cd5 ct5), sl5⟩) (c5 : PySem.W.codeIn K cd5 "_law_script" = true) (k5 : PySem.W.keepIn K (.ref f5) = true)
    (a6 : PySem.W.nsIn K mainGlobals "_law_bent" = some (some (.ref f6))) (l6 : K.lookup f6 = some ⟨oc6, od6, .func (PySem.W.fnOf "_law_bent" "_law_bent" (defArgs st_L_bent) (defBody st_L_bent) (defScope st_L_bent) .none kV6 dc6 pm6 an6 cd6 ct6), sl6⟩) (c6 : PySem.W.codeIn K cd6 "_law_bent" = true) (k6 : PySem.W.keepIn K (.ref f6) = true)
    (a7 : PySem.W.nsIn K mainGlobals "is_name" = some (some (.ref f7))) (l7 : K.lookup f7 = some ⟨oc7, od7, .func (PySem.W.fnOf "is_name" "is_name" (defArgs st_is_name) (defBody st_is_name) (defScope st_is_name) .none kV7 dc7 pm7 an7 cd7 ct7), sl7⟩) (c7 : PySem.W.codeIn K cd7 "is_name" = true) (k7 : PySem.W.keepIn K (.ref f7) = true)
    (a8 : PySem.W.nsIn K mainGlobals "is_node" = some (some (.ref f8))) (l8 : K.lookup f8 = some ⟨oc8, od8, .func (PySem.W.fnOf "is_node" "is_node" (defArgs st_is_node) (defBody st_is_node) (defScope st_is_node) .none kV8 dc8 pm8 an8 cd8 ct8), sl8⟩) (c8 : PySem.W.codeIn K cd8 "is_node" = true) (k8 : PySem.W.keepIn K (.ref f8) = true)
    (a9 : PySem.W.nsIn K mainGlobals "size_of" = some (some (.ref f9))) (l9 : K.lookup f9 = some ⟨oc9, od9, .func (PySem.W.fnOf "size_of" "size_of" (defArgs st_size_of) (defBody st_size_of) (defScope st_size_of) .none kV9 dc9 pm9 an9 cd9 ct9), sl9⟩) (c9 : PySem.W.codeIn K cd9 "size_of" = true) (k9 : PySem.W.keepIn K (.ref f9) = true)
    (a10 : PySem.W.nsIn K mainGlobals "names_in" = some (some (.ref f10))) (l10 : K.lookup f10 = some ⟨oc10, od10, .func (PySem.W.fnOf "names_in" "names_in" (defArgs st_names_in) (defBody st_names_in) (defScope st_names_in) .none kV10 dc10 pm10 an10 cd10 ct10), sl10⟩) (c10 : PySem.W.codeIn K cd10 "names_in" = true) (k10 : PySem.W.keepIn K (.ref f10) = true)
    (a11 : PySem.W.nsIn K mainGlobals "is_expression" = some (some (.ref f11))) (l11 : K.lookup f11 = some ⟨oc11, od11, .func (PySem.W.fnOf "is_expression" "is_expression" (defArgs st_is_expression) (defBody st_is_expression) (defScope st_is_expression) .none kV11 dc11 pm11 an11 cd11 ct11), sl11⟩) (c11 : PySem.W.codeIn K cd11 "is_expression" = true) (k11 : PySem.W.keepIn K (.ref f11) = true)
    (a12 : PySem.W.nsIn K mainGlobals "looked_expressions" = some (some (.ref f12))) (l12 : K.lookup f12 = some ⟨oc12, od12, .func (PySem.W.fnOf "looked" "looked" (defArgs st_looked_expressions) (defBody st_looked_expressions) (defScope st_looked_expressions) .none kV12 dc12 pm12 an12 cd12 ct12), sl12⟩) (c12 : PySem.W.codeIn K cd12 "looked" = true) (k12 : PySem.W.keepIn K (.ref f12) = true)
    (a13 : PySem.W.nsIn K mainGlobals "sign_of" = some (some (.ref f13))) (l13 : K.lookup f13 = some ⟨oc13, od13, .func (PySem.W.fnOf "sign_of" "sign_of" (defArgs st_sign_of) (defBody st_sign_of) (defScope st_sign_of) .none kV13 dc13 pm13 an13 cd13 ct13), sl13⟩) (c13 : PySem.W.codeIn K cd13 "sign_of" = true) (k13 : PySem.W.keepIn K (.ref f13) = true)
    (a14 : PySem.W.nsIn K mainGlobals "text_of" = some (some (.ref f14))) (l14 : K.lookup f14 = some ⟨oc14, od14, .func (PySem.W.fnOf "text_of" "text_of" (defArgs st_text_of) (defBody st_text_of) (defScope st_text_of) .none kV14 dc14 pm14 an14 cd14 ct14), sl14⟩) (c14 : PySem.W.codeIn K cd14 "text_of" = true) (k14 : PySem.W.keepIn K (.ref f14) = true)
    (a15 : PySem.W.nsIn K mainGlobals "expression_text" = some (some (.ref f15))) (l15 : K.lookup f15 = some ⟨oc15, od15, .func (PySem.W.fnOf "expression_text" "expression_text" (defArgs st_expression_text) (defBody st_expression_text) (defScope st_expression_text) .none kV15 dc15 pm15 an15 cd15 ct15), sl15⟩) (c15 : PySem.W.codeIn K cd15 "expression_text" = true) (k15 : PySem.W.keepIn K (.ref f15) = true)
    (a16 : PySem.W.nsIn K mainGlobals "names_used" = some (some (.ref f16))) (l16 : K.lookup f16 = some ⟨oc16, od16, .func (PySem.W.fnOf "names_used" "names_used" (defArgs st_names_used) (defBody st_names_used) (defScope st_names_used) .none kV16 dc16 pm16 an16 cd16 ct16), sl16⟩) (c16 : PySem.W.codeIn K cd16 "names_used" = true) (k16 : PySem.W.keepIn K (.ref f16) = true)
    (a17 : PySem.W.nsIn K mainGlobals "is_step" = some (some (.ref f17))) (l17 : K.lookup f17 = some ⟨oc17, od17, .func (PySem.W.fnOf "is_step" "is_step" (defArgs st_is_step) (defBody st_is_step) (defScope st_is_step) .none kV17 dc17 pm17 an17 cd17 ct17), sl17⟩) (c17 : PySem.W.codeIn K cd17 "is_step" = true) (k17 : PySem.W.keepIn K (.ref f17) = true)
    (a18 : PySem.W.nsIn K mainGlobals "is_script" = some (some (.ref f18))) (l18 : K.lookup f18 = some ⟨oc18, od18, .func (PySem.W.fnOf "is_script" "is_script" (defArgs st_is_script) (defBody st_is_script) (defScope st_is_script) .none kV18 dc18 pm18 an18 cd18 ct18), sl18⟩) (c18 : PySem.W.codeIn K cd18 "is_script" = true) (k18 : PySem.W.keepIn K (.ref f18) = true)
    (a19 : PySem.W.nsIn K mainGlobals "looked_scripts" = some (some (.ref f19))) (l19 : K.lookup f19 = some ⟨oc19, od19, .func (PySem.W.fnOf "looked" "looked" (defArgs st_looked_scripts) (defBody st_looked_scripts) (defScope st_looked_scripts) .none kV19 dc19 pm19 an19 cd19 ct19), sl19⟩) (c19 : PySem.W.codeIn K cd19 "looked" = true) (k19 : PySem.W.keepIn K (.ref f19) = true)
    (a20 : PySem.W.nsIn K mainGlobals "line_of" = some (some (.ref f20))) (l20 : K.lookup f20 = some ⟨oc20, od20, .func (PySem.W.fnOf "line_of" "line_of" (defArgs st_line_of) (defBody st_line_of) (defScope st_line_of) .none kV20 dc20 pm20 an20 cd20 ct20), sl20⟩) (c20 : PySem.W.codeIn K cd20 "line_of" = true) (k20 : PySem.W.keepIn K (.ref f20) = true)
    (a21 : PySem.W.nsIn K mainGlobals "script_text" = some (some (.ref f21))) (l21 : K.lookup f21 = some ⟨oc21, od21, .func (PySem.W.fnOf "script_text" "script_text" (defArgs st_script_text) (defBody st_script_text) (defScope st_script_text) .none kV21 dc21 pm21 an21 cd21 ct21), sl21⟩) (c21 : PySem.W.codeIn K cd21 "script_text" = true) (k21 : PySem.W.keepIn K (.ref f21) = true)
    (a22 : PySem.W.nsIn K mainGlobals "parted" = some (some (.ref f22))) (l22 : K.lookup f22 = some ⟨oc22, od22, .func (PySem.W.fnOf "parted" "parted" (defArgs st_parted) (defBody st_parted) (defScope st_parted) .none kV22 dc22 pm22 an22 cd22 ct22), sl22⟩) (c22 : PySem.W.codeIn K cd22 "parted" = true) (k22 : PySem.W.keepIn K (.ref f22) = true)
    (a23 : PySem.W.nsIn K mainGlobals "read" = some (some (.ref f23))) (l23 : K.lookup f23 = some ⟨oc23, od23, .func (PySem.W.fnOf "read" "read" (defArgs st_read) (defBody st_read) (defScope st_read) .none kV23 dc23 pm23 an23 cd23 ct23), sl23⟩) (c23 : PySem.W.codeIn K cd23 "read" = true) (k23 : PySem.W.keepIn K (.ref f23) = true)
    (a24 : PySem.W.nsIn K mainGlobals "read_expression" = some (some (.ref f24))) (l24 : K.lookup f24 = some ⟨oc24, od24, .func (PySem.W.fnOf "read_expression" "read_expression" (defArgs st_read_expression) (defBody st_read_expression) (defScope st_read_expression) .none kV24 dc24 pm24 an24 cd24 ct24), sl24⟩) (c24 : PySem.W.codeIn K cd24 "read_expression" = true) (k24 : PySem.W.keepIn K (.ref f24) = true)
    (a25 : PySem.W.nsIn K mainGlobals "read_line" = some (some (.ref f25))) (l25 : K.lookup f25 = some ⟨oc25, od25, .func (PySem.W.fnOf "read_line" "read_line" (defArgs st_read_line) (defBody st_read_line) (defScope st_read_line) .none kV25 dc25 pm25 an25 cd25 ct25), sl25⟩) (c25 : PySem.W.codeIn K cd25 "read_line" = true) (k25 : PySem.W.keepIn K (.ref f25) = true)
    (a26 : PySem.W.nsIn K mainGlobals "read_script" = some (some (.ref f26))) (l26 : K.lookup f26 = some ⟨oc26, od26, .func (PySem.W.fnOf "read_script" "read_script" (defArgs st_read_script) (defBody st_read_script) (defScope st_read_script) .none kV26 dc26 pm26 an26 cd26 ct26), sl26⟩) (c26 : PySem.W.codeIn K cd26 "read_script" = true) (k26 : PySem.W.keepIn K (.ref f26) = true)
    (a27 : PySem.W.nsIn K mainGlobals "law" = some (some (.ref f27))) (l27 : K.lookup f27 = some ⟨oc27, od27, .func (PySem.W.fnOf "law" "law" (defArgs st_law) (defBody st_law) (defScope st_law) .none kV27 dc27 pm27 an27 (.ref cc) ct27), sl27⟩) (c27 : PySem.W.codeIn K (.ref cc) "law" = true) (k27 : PySem.W.keepIn K (.ref f27) = true)
    (a28 : PySem.W.nsIn K mainGlobals "_law_tried" = some (some (.ref f28))) (l28 : K.lookup f28 = some ⟨oc28, od28, .func (PySem.W.fnOf "_law_tried" "_law_tried" (defArgs st_L_tried) (defBody st_L_tried) (defScope st_L_tried) .none kV28 dc28 pm28 an28 cd28 ct28), sl28⟩) (c28 : PySem.W.codeIn K cd28 "_law_tried" = true) (k28 : PySem.W.keepIn K (.ref f28) = true)
    (a29 : PySem.W.nsIn K mainGlobals "_law_word" = some (some (.ref f29))) (l29 : K.lookup f29 = some ⟨oc29, od29, .func (PySem.W.fnOf "_law_word" "_law_word" (defArgs st_L_word) (defBody st_L_word) (defScope st_L_word) .none kV29 dc29 pm29 an29 cd29 ct29), sl29⟩) (c29 : PySem.W.codeIn K cd29 "_law_word" = true) (k29 : PySem.W.keepIn K (.ref f29) = true)
    (hc : K.lookup cc = some ⟨ce, cdd, .fields cvs, csl⟩) (hP : cvs[11]? = some (.ref PP)) (hh : PySem.W.codeHdIn K cc PP = true) (nP : K.lookup PP = none)
    (z0 : PySem.W.nsIn K mainGlobals "all" = some none)
    (z1 : PySem.W.nsIn K mainGlobals "dict" = some none)
    (z2 : PySem.W.nsIn K mainGlobals "int" = some none)
    (z3 : PySem.W.nsIn K mainGlobals "isinstance" = some none)
    (z4 : PySem.W.nsIn K mainGlobals "len" = some none)
    (z5 : PySem.W.nsIn K mainGlobals "list" = some none)
    (z6 : PySem.W.nsIn K mainGlobals "range" = some none)
    (z7 : PySem.W.nsIn K mainGlobals "sorted" = some none)
    (z8 : PySem.W.nsIn K mainGlobals "str" = some none)
    (z9 : PySem.W.nsIn K mainGlobals "sum" = some none)
    (z10 : PySem.W.nsIn K mainGlobals "tuple" = some none)
    (z11 : PySem.W.nsIn K mainGlobals "zip" = some none)
    (y0 : PySem.W.nsIn K mainGlobals "CALLS" = some (some (.ref ta0))) (x0 : K.lookup ta0 = some ⟨.type "tuple", to0, .seq #[.str "update" tk0_0, .str "subtract" tk0_1] tn0, ts0⟩)
    (y1 : PySem.W.nsIn K mainGlobals "LETTERS" = some (some (.str "abcdefghijklmnopqrstuvwxyz" tk1)))
    (y2 : PySem.W.nsIn K mainGlobals "MOST_NAMES" = some (some (.int 3 tk2)))
    (y3 : PySem.W.nsIn K mainGlobals "MOST_NODES" = some (some (.int 12 tk3)))
    (y4 : PySem.W.nsIn K mainGlobals "MOST_STEPS" = some (some (.int 6 tk4)))
    (y5 : PySem.W.nsIn K mainGlobals "PAIRS" = some (some (.ref ta5))) (x5 : K.lookup ta5 = some ⟨.type "tuple", to5, .seq #[.str "add" tk5_0, .str "less" tk5_1, .str "most" tk5_2, .str "least" tk5_3, .str "update" tk5_4, .str "subtract" tk5_5] tn5, ts5⟩)
    (y6 : PySem.W.nsIn K mainGlobals "SET" = some (some (.str "set" tk6)))
    (y7 : PySem.W.nsIn K mainGlobals "SIGNS" = some (some (.ref ta7))) (x7 : K.lookup ta7 = some ⟨.type "tuple", none, .seq #[.ref tb7_0, .ref tb7_1, .ref tb7_2, .ref tb7_3] tn7, ts7⟩) (x7_0 : K.lookup tb7_0 = some ⟨.type "tuple", to7_0, .seq #[.str "add" tk7_0, .str "+" tl7_0] tn7_0, ts7_0⟩) (x7_1 : K.lookup tb7_1 = some ⟨.type "tuple", to7_1, .seq #[.str "less" tk7_1, .str "-" tl7_1] tn7_1, ts7_1⟩) (x7_2 : K.lookup tb7_2 = some ⟨.type "tuple", to7_2, .seq #[.str "most" tk7_2, .str "|" tl7_2] tn7_2, ts7_2⟩) (x7_3 : K.lookup tb7_3 = some ⟨.type "tuple", to7_3, .seq #[.str "least" tk7_3, .str "&" tl7_3] tn7_3, ts7_3⟩)
    (y8 : PySem.W.nsIn K mainGlobals "SINGLES" = some (some (.ref ta8))) (x8 : K.lookup ta8 = some ⟨.type "tuple", to8, .seq #[.str "plus" tk8_0, .str "minus" tk8_1] tn8, ts8⟩)
    (ea0 : PySem.W.nsIn K mainGlobals "NoCounter" = some (some (.ref e0)))
    (ea1 : PySem.W.nsIn K mainGlobals "NoCounters" = some (some (.ref e1)))
    (ea2 : PySem.W.nsIn K mainGlobals "NoExpression" = some (some (.ref e2)))
    (ea3 : PySem.W.nsIn K mainGlobals "NoScript" = some (some (.ref e3)))
    (ea4 : PySem.W.nsIn K mainGlobals "NoSystem" = some (some (.ref e4)))
    (ea5 : PySem.W.nsIn K mainGlobals "NoName" = some (some (.ref e5)))
    (ea6 : PySem.W.nsIn K mainGlobals "NoNumber" = some (some (.ref e6)))
    (ea7 : PySem.W.nsIn K mainGlobals "NoWay" = some (some (.ref e7)))
    (ea8 : PySem.W.nsIn K mainGlobals "NoText" = some (some (.ref e8)))
    (ea9 : PySem.W.nsIn K mainGlobals "TooMany" = some (some (.ref e9)))
    (ea10 : PySem.W.nsIn K mainGlobals "CountError" = some (some (.ref e10)))
    (ed2 : ExcD K e2 e10) (eb2 : BsK K e2 e0 e1 e2 e3 e4 e5 e6 e7 e8 e9 false false true false false false false false false false)
    (ed3 : ExcD K e3 e10) (eb3 : BsK K e3 e0 e1 e2 e3 e4 e5 e6 e7 e8 e9 false false false true false false false false false false)
    (ed8 : ExcD K e8 e10) (eb8 : BsK K e8 e0 e1 e2 e3 e4 e5 e6 e7 e8 e9 false false false false false false false false true false)
    : ∃ (fd : FuncData) (c P : Addr) (o1 : Obj) (e : Value) (dd : Option Addr) (vs : Array Value) (sl : Array (Option Value)), K.lookup fa = some o1 ∧ o1.data = .func fd ∧ fd.code = .ref c ∧ K.lookup c = some ⟨e, dd, .fields vs, sl⟩ ∧ vs[11]? = some (.ref P) ∧ PySem.W.codeHdIn K c P = true ∧ K.lookup P = none ∧
      (∀ (s : Shared) (u : Value), BindsTo s fd ⟨[u], []⟩ [("_law_script_here", u)]) ∧ ∀ base : Heap, K.In base → base.Ns mainGlobals mg → LamX.TabB base mg c P → FnOk l.prog w K mg base (L2N.CX l.prog w) 49 fa fd ["_law_script_here"] (spT K P m_law) := by
  have e := hfa.symm.trans (PySem.W.mg_of X G a27)
  cases e
  have q0 : exA K "NoCounter" = e0 := by unfold exA fnA; rw [ea0]
  have q1 : exA K "NoCounters" = e1 := by unfold exA fnA; rw [ea1]
  have q2 : exA K "NoExpression" = e2 := by unfold exA fnA; rw [ea2]
  have q3 : exA K "NoScript" = e3 := by unfold exA fnA; rw [ea3]
  have q4 : exA K "NoSystem" = e4 := by unfold exA fnA; rw [ea4]
  have q5 : exA K "NoName" = e5 := by unfold exA fnA; rw [ea5]
  have q6 : exA K "NoNumber" = e6 := by unfold exA fnA; rw [ea6]
  have q7 : exA K "NoWay" = e7 := by unfold exA fnA; rw [ea7]
  have q8 : exA K "NoText" = e8 := by unfold exA fnA; rw [ea8]
  have q9 : exA K "TooMany" = e9 := by unfold exA fnA; rw [ea9]
  have q10 : exA K "CountError" = e10 := by unfold exA fnA; rw [ea10]
  have T : Tx K mg := ⟨PySem.W.mg_none_of X G z0, PySem.W.mg_none_of X G z1, PySem.W.mg_none_of X G z2, PySem.W.mg_none_of X G z3, PySem.W.mg_none_of X G z4, PySem.W.mg_none_of X G z5, PySem.W.mg_none_of X G z6, PySem.W.mg_none_of X G z7, PySem.W.mg_none_of X G z8, PySem.W.mg_none_of X G z9, PySem.W.mg_none_of X G z10, PySem.W.mg_none_of X G z11, ⟨_, PySem.W.mg_of X G y0, fun F => .inr ⟨_, _, _, x0, rfl, rfl, line_pos (by simp), .cons ⟨_, rfl⟩ (.cons ⟨_, rfl⟩ (.nil))⟩⟩, ⟨_, PySem.W.mg_of X G y1, ⟨_, rfl⟩⟩, ⟨_, PySem.W.mg_of X G y2, ⟨_, rfl⟩⟩, ⟨_, PySem.W.mg_of X G y3, ⟨_, rfl⟩⟩, ⟨_, PySem.W.mg_of X G y4, ⟨_, rfl⟩⟩, ⟨_, PySem.W.mg_of X G y5, fun F => .inr ⟨_, _, _, x5, rfl, rfl, line_pos (by simp), .cons ⟨_, rfl⟩ (.cons ⟨_, rfl⟩ (.cons ⟨_, rfl⟩ (.cons ⟨_, rfl⟩ (.cons ⟨_, rfl⟩ (.cons ⟨_, rfl⟩ (.nil))))))⟩⟩, ⟨_, PySem.W.mg_of X G y6, ⟨_, rfl⟩⟩, ⟨_, [tb7_0, tb7_1, tb7_2, tb7_3], _, _, PySem.W.mg_of X G y7, x7, rfl, rfl, rfl, by simp, .cons (fun F => .inr ⟨_, _, _, x7_0, rfl, rfl, line_pos (by simp), .cons ⟨_, rfl⟩ (.cons ⟨_, rfl⟩ .nil)⟩) (.cons (fun F => .inr ⟨_, _, _, x7_1, rfl, rfl, line_pos (by simp), .cons ⟨_, rfl⟩ (.cons ⟨_, rfl⟩ .nil)⟩) (.cons (fun F => .inr ⟨_, _, _, x7_2, rfl, rfl, line_pos (by simp), .cons ⟨_, rfl⟩ (.cons ⟨_, rfl⟩ .nil)⟩) (.cons (fun F => .inr ⟨_, _, _, x7_3, rfl, rfl, line_pos (by simp), .cons ⟨_, rfl⟩ (.cons ⟨_, rfl⟩ .nil)⟩) (.nil))))⟩, ⟨_, PySem.W.mg_of X G y8, fun F => .inr ⟨_, _, _, x8, rfl, rfl, line_pos (by simp), .cons ⟨_, rfl⟩ (.cons ⟨_, rfl⟩ (.nil))⟩⟩, by rw [q0]; exact PySem.W.mg_of X G ea0, by rw [q1]; exact PySem.W.mg_of X G ea1, by rw [q2]; exact PySem.W.mg_of X G ea2, by rw [q3]; exact PySem.W.mg_of X G ea3, by rw [q4]; exact PySem.W.mg_of X G ea4, by rw [q5]; exact PySem.W.mg_of X G ea5, by rw [q6]; exact PySem.W.mg_of X G ea6, by rw [q7]; exact PySem.W.mg_of X G ea7, by rw [q8]; exact PySem.W.mg_of X G ea8, by rw [q9]; exact PySem.W.mg_of X G ea9, by rw [q10]; exact PySem.W.mg_of X G ea10, by rw [q2, q10]; exact ed2, by rw [q0, q1, q2, q3, q4, q5, q6, q7, q8, q9]; exact eb2, by rw [q3, q10]; exact ed3, by rw [q0, q1, q2, q3, q4, q5, q6, q7, q8, q9]; exact eb3, by rw [q8, q10]; exact ed8, by rw [q0, q1, q2, q3, q4, q5, q6, q7, q8, q9]; exact eb8⟩
  have F0 := fun_mk (st := st_L_draw) l0 c0 k0
  have N0 : Fn K mg "_law_draw" st_L_draw ["_law_tape", "_law_many"] := ⟨_, _, F0, PySem.W.mg_of X G a0, F0.binds (ps := ["_law_tape", "_law_many"]) fun _ _ _ _ _ _ us hl => match us, hl with | [_, _], _ => rfl⟩
  have F1 := fun_mk (st := st_L_of) l1 c1 k1
  have N1 : Fn K mg "_law_of" st_L_of ["_law_tape", "_law_some"] := ⟨_, _, F1, PySem.W.mg_of X G a1, F1.binds (ps := ["_law_tape", "_law_some"]) fun _ _ _ _ _ _ us hl => match us, hl with | [_, _], _ => rfl⟩
  have F2 := fun_mk (st := st_L_ways) l2 c2 k2
  have N2 : Fn K mg "_law_ways" st_L_ways [] := ⟨_, _, F2, PySem.W.mg_of X G a2, F2.binds (ps := []) fun _ _ _ _ _ _ us hl => match us, hl with | [], _ => rfl⟩
  have F3 := fun_mk (st := st_L_sum) l3 c3 k3
  have N3 : Fn K mg "_law_sum" st_L_sum ["_law_tape", "_law_names", "_law_nodes"] := ⟨_, _, F3, PySem.W.mg_of X G a3, F3.binds (ps := ["_law_tape", "_law_names", "_law_nodes"]) fun _ _ _ _ _ _ us hl => match us, hl with | [_, _, _], _ => rfl⟩
  have F4 := fun_mk (st := st_L_step) l4 c4 k4
  have N4 : Fn K mg "_law_step" st_L_step ["_law_tape", "_law_names", "_law_nodes"] := ⟨_, _, F4, PySem.W.mg_of X G a4, F4.binds (ps := ["_law_tape", "_law_names", "_law_nodes"]) fun _ _ _ _ _ _ us hl => match us, hl with | [_, _, _], _ => rfl⟩
  have F5 := fun_mk (st := st_L_script) l5 c5 k5
  have N5 : Fn K mg "_law_script" st_L_script ["_law_tape", "_law_names", "_law_steps"] := ⟨_, _, F5, PySem.W.mg_of X G a5, F5.binds (ps := ["_law_tape", "_law_names", "_law_steps"]) fun _ _ _ _ _ _ us hl => match us, hl with | [_, _, _], _ => rfl⟩
  have F6 := fun_mk (st := st_L_bent) l6 c6 k6
  have N6 : Fn K mg "_law_bent" st_L_bent ["_law_tape", "_law_text"] := ⟨_, _, F6, PySem.W.mg_of X G a6, F6.binds (ps := ["_law_tape", "_law_text"]) fun _ _ _ _ _ _ us hl => match us, hl with | [_, _], _ => rfl⟩
  have F7 := fun_mk (st := st_is_name) l7 c7 k7
  have N7 : Fn K mg "is_name" st_is_name ["thing"] := ⟨_, _, F7, PySem.W.mg_of X G a7, F7.binds (ps := ["thing"]) fun _ _ _ _ _ _ us hl => match us, hl with | [_], _ => rfl⟩
  have F8 := fun_mk (st := st_is_node) l8 c8 k8
  have N8 : Fn K mg "is_node" st_is_node ["thing", "deep"] := ⟨_, _, F8, PySem.W.mg_of X G a8, F8.binds (ps := ["thing", "deep"]) fun _ _ _ _ _ _ us hl => match us, hl with | [_, _], _ => rfl⟩
  have F9 := fun_mk (st := st_size_of) l9 c9 k9
  have N9 : Fn K mg "size_of" st_size_of ["expression"] := ⟨_, _, F9, PySem.W.mg_of X G a9, F9.binds (ps := ["expression"]) fun _ _ _ _ _ _ us hl => match us, hl with | [_], _ => rfl⟩
  have F10 := fun_mk (st := st_names_in) l10 c10 k10
  have N10 : Fn K mg "names_in" st_names_in ["expression"] := ⟨_, _, F10, PySem.W.mg_of X G a10, F10.binds (ps := ["expression"]) fun _ _ _ _ _ _ us hl => match us, hl with | [_], _ => rfl⟩
  have F11 := fun_mk (st := st_is_expression) l11 c11 k11
  have N11 : Fn K mg "is_expression" st_is_expression ["thing"] := ⟨_, _, F11, PySem.W.mg_of X G a11, F11.binds (ps := ["thing"]) fun _ _ _ _ _ _ us hl => match us, hl with | [_], _ => rfl⟩
  have F12 := fun_mk (st := st_looked_expressions) l12 c12 k12
  have N12 : FnSA K mg "looked_expressions" "looked" st_looked_expressions "expressions" := ⟨_, _, F12, PySem.W.mg_of X G a12, fun us rest hl => match us, rest, hl with | [], [], _ => rfl | [], _ :: _, _ => rfl⟩
  have F13 := fun_mk (st := st_sign_of) l13 c13 k13
  have N13 : Fn K mg "sign_of" st_sign_of ["word"] := ⟨_, _, F13, PySem.W.mg_of X G a13, F13.binds (ps := ["word"]) fun _ _ _ _ _ _ us hl => match us, hl with | [_], _ => rfl⟩
  have F14 := fun_mk (st := st_text_of) l14 c14 k14
  have N14 : Fn K mg "text_of" st_text_of ["expression"] := ⟨_, _, F14, PySem.W.mg_of X G a14, F14.binds (ps := ["expression"]) fun _ _ _ _ _ _ us hl => match us, hl with | [_], _ => rfl⟩
  have F15 := fun_mk (st := st_expression_text) l15 c15 k15
  have N15 : Fn K mg "expression_text" st_expression_text ["expression"] := ⟨_, _, F15, PySem.W.mg_of X G a15, F15.binds (ps := ["expression"]) fun _ _ _ _ _ _ us hl => match us, hl with | [_], _ => rfl⟩
  have F16 := fun_mk (st := st_names_used) l16 c16 k16
  have N16 : Fn K mg "names_used" st_names_used ["script"] := ⟨_, _, F16, PySem.W.mg_of X G a16, F16.binds (ps := ["script"]) fun _ _ _ _ _ _ us hl => match us, hl with | [_], _ => rfl⟩
  have F17 := fun_mk (st := st_is_step) l17 c17 k17
  have N17 : Fn K mg "is_step" st_is_step ["thing"] := ⟨_, _, F17, PySem.W.mg_of X G a17, F17.binds (ps := ["thing"]) fun _ _ _ _ _ _ us hl => match us, hl with | [_], _ => rfl⟩
  have F18 := fun_mk (st := st_is_script) l18 c18 k18
  have N18 : Fn K mg "is_script" st_is_script ["thing"] := ⟨_, _, F18, PySem.W.mg_of X G a18, F18.binds (ps := ["thing"]) fun _ _ _ _ _ _ us hl => match us, hl with | [_], _ => rfl⟩
  have F19 := fun_mk (st := st_looked_scripts) l19 c19 k19
  have N19 : FnSA K mg "looked_scripts" "looked" st_looked_scripts "scripts" := ⟨_, _, F19, PySem.W.mg_of X G a19, fun us rest hl => match us, rest, hl with | [], [], _ => rfl | [], _ :: _, _ => rfl⟩
  have F20 := fun_mk (st := st_line_of) l20 c20 k20
  have N20 : Fn K mg "line_of" st_line_of ["step"] := ⟨_, _, F20, PySem.W.mg_of X G a20, F20.binds (ps := ["step"]) fun _ _ _ _ _ _ us hl => match us, hl with | [_], _ => rfl⟩
  have F21 := fun_mk (st := st_script_text) l21 c21 k21
  have N21 : Fn K mg "script_text" st_script_text ["script"] := ⟨_, _, F21, PySem.W.mg_of X G a21, F21.binds (ps := ["script"]) fun _ _ _ _ _ _ us hl => match us, hl with | [_], _ => rfl⟩
  have F22 := fun_mk (st := st_parted) l22 c22 k22
  have N22 : Fn K mg "parted" st_parted ["text", "sign"] := ⟨_, _, F22, PySem.W.mg_of X G a22, F22.binds (ps := ["text", "sign"]) fun _ _ _ _ _ _ us hl => match us, hl with | [_, _], _ => rfl⟩
  have F23 := fun_mk (st := st_read) l23 c23 k23
  have N23 : Fn K mg "read" st_read ["text", "deep"] := ⟨_, _, F23, PySem.W.mg_of X G a23, F23.binds (ps := ["text", "deep"]) fun _ _ _ _ _ _ us hl => match us, hl with | [_, _], _ => rfl⟩
  have F24 := fun_mk (st := st_read_expression) l24 c24 k24
  have N24 : Fn K mg "read_expression" st_read_expression ["text"] := ⟨_, _, F24, PySem.W.mg_of X G a24, F24.binds (ps := ["text"]) fun _ _ _ _ _ _ us hl => match us, hl with | [_], _ => rfl⟩
  have F25 := fun_mk (st := st_read_line) l25 c25 k25
  have N25 : Fn K mg "read_line" st_read_line ["line"] := ⟨_, _, F25, PySem.W.mg_of X G a25, F25.binds (ps := ["line"]) fun _ _ _ _ _ _ us hl => match us, hl with | [_], _ => rfl⟩
  have F26 := fun_mk (st := st_read_script) l26 c26 k26
  have N26 : Fn K mg "read_script" st_read_script ["text"] := ⟨_, _, F26, PySem.W.mg_of X G a26, F26.binds (ps := ["text"]) fun _ _ _ _ _ _ us hl => match us, hl with | [_], _ => rfl⟩
  have F28 := fun_mk (st := st_L_tried) l28 c28 k28
  have N28 : Fn K mg "_law_tried" st_L_tried ["_law_call"] := ⟨_, _, F28, PySem.W.mg_of X G a28, F28.binds (ps := ["_law_call"]) fun _ _ _ _ _ _ us hl => match us, hl with | [_], _ => rfl⟩
  have F29 := fun_mk (st := st_L_word) l29 c29 k29
  have N29 : Fn K mg "_law_word" st_L_word ["_law_e"] := ⟨_, _, F29, PySem.W.mg_of X G a29, F29.binds (ps := ["_law_e"]) fun _ _ _ _ _ _ us hl => match us, hl with | [_], _ => rfl⟩
  refine ⟨PySem.W.fnOf "law" "law" (defArgs st_law) (defBody st_law) (defScope st_law) .none kV27 dc27 pm27 an27 (.ref cc) ct27, cc, PP, _, ce, cdd, cvs, csl, l27, rfl, rfl, hc, hP, hh, nP, fun s v => .of_eq rfl, fun base _ _ TB => ?_⟩
  have C_L_draw := w_L_draw (P := l.prog) (w := w) (base := base) T N0
  have C_L_of := w_L_of (P := l.prog) (w := w) (base := base) T N1 C_L_draw
  have C_L_ways := w_L_ways (P := l.prog) (w := w) (base := base) T N2
  have C_L_sum := w_L_sum (P := l.prog) (w := w) (base := base) T N3 C_L_draw C_L_of C_L_ways 40
  have C_L_step := w_L_step (P := l.prog) (w := w) (base := base) T N4 C_L_of C_L_sum C_L_ways
  have C_L_script := w_L_script (P := l.prog) (w := w) (base := base) T N5 C_L_step C_L_draw
  have C_L_bent := w_L_bent (P := l.prog) (w := w) (base := base) T N6 C_L_draw C_L_of
  have C_is_name := w_is_name (P := l.prog) (w := w) (base := base) T N7
  have C_is_node := w_is_node (P := l.prog) (w := w) (base := base) T N8 C_is_name 40
  have C_size_of := w_size_of (P := l.prog) (w := w) (base := base) T N9 40
  have C_names_in := w_names_in (P := l.prog) (w := w) (base := base) T N10 40
  have C_is_expression := w_is_expression (P := l.prog) (w := w) (base := base) T N11 C_is_node C_size_of C_names_in
  have C_looked_expressions := w_looked_expressions (P := l.prog) (w := w) (base := base) T N12 C_is_expression
  have C_sign_of := w_sign_of (P := l.prog) (w := w) (base := base) T N13
  have C_text_of := w_text_of (P := l.prog) (w := w) (base := base) T N14 C_sign_of 40
  have C_expression_text := w_expression_text (P := l.prog) (w := w) (base := base) T N15 C_looked_expressions C_text_of
  have C_names_used := w_names_used (P := l.prog) (w := w) (base := base) T N16 C_names_in
  have C_is_step := w_is_step (P := l.prog) (w := w) (base := base) T N17 C_is_expression C_is_name
  have C_is_script := w_is_script (P := l.prog) (w := w) (base := base) T N18 C_names_used C_size_of C_is_step
  have C_looked_scripts := w_looked_scripts (P := l.prog) (w := w) (base := base) T N19 C_is_script
  have C_line_of := w_line_of (P := l.prog) (w := w) (base := base) T N20 C_text_of C_sign_of
  have C_script_text := w_script_text (P := l.prog) (w := w) (base := base) T N21 C_looked_scripts C_line_of
  have C_parted := w_parted (P := l.prog) (w := w) (base := base) T N22
  have C_read := w_read (P := l.prog) (w := w) (base := base) T N23 C_parted 40
  have C_read_expression := w_read_expression (P := l.prog) (w := w) (base := base) T N24 C_read C_is_expression C_text_of
  have C_read_line := w_read_line (P := l.prog) (w := w) (base := base) T N25 C_read
  have C_read_script := w_read_script (P := l.prog) (w := w) (base := base) T N26 C_is_script C_read_line C_line_of
  have W_word := w_L_word (P := l.prog) (w := w) (base := base) T N29
  exact w_law (P := l.prog) (w := w) (base := base) T l27 c27 TB C_L_sum C_L_script C_L_bent N28 W_word C_expression_text C_script_text C_L_draw C_read_expression C_read_script C_is_expression C_is_script
theorem walk {l : PySem.W.OpenLaw} {q : Program} {loose : List Str} {XP : (Str → Option Value) → Heap → Prop} {YP : World → Heap → Prop} {d : DefRec} {K : Params → PySem.W.Frag} (hn : l.most = some 63) (hdf : d.params.defaults = []) (hrec : ((recsOf q).any fun e => e.name == d.name) = true)
    (hY : ∀ (w : World) (h : Heap), YP w h → (K w.params).In h)
    (F : ∀ (w : World) (mg : Str → Option Value) (fa : Addr) (h : Heap), (K w.params).In h → h.Ns mainGlobals mg → mg d.name = some (.ref fa) →
      ∃ (fd : FuncData) (c P : Addr) (o1 : Obj) (e : Value) (dd : Option Addr) (vs : Array Value) (sl : Array (Option Value)), (K w.params).lookup fa = some o1 ∧ o1.data = .func fd ∧ fd.code = .ref c ∧ (K w.params).lookup c = some ⟨e, dd, .fields vs, sl⟩ ∧ vs[11]? = some (.ref P) ∧
        PySem.W.codeHdIn (K w.params) c P = true ∧ (K w.params).lookup P = none ∧ (∀ (s : Shared) (u : Value), BindsTo s fd ⟨[u], []⟩ [("_law_script_here", u)]) ∧
        ∀ base : Heap, (K w.params).In base → base.Ns mainGlobals mg → LamX.TabB base mg c P → FnOk l.prog w (K w.params) mg base (L2N.CX l.prog w) 49 fa fd ["_law_script_here"] (spT (K w.params) P m_law))
    (plain : ∀ ns : List Int, ns.length ≤ 63 → (∀ z ∈ ns, Builtin.Int.intBits z ≤ 1048576) → ∃ o, m_law [.scr ns] = .ok (.bl true) o) :
    PySem.W.WalkO q loose XP YP l.row.toRowW d [] (fun f vs => PySem.call f vs) := walkT hn hdf ⟨rfl, by decide, by decide⟩ hrec hY F plain
end
end
end Lw

/-! Data of bounded width and depth, without dicts. -/
namespace Dt
open PySem
def Ok (m : Nat) : Nat → D → Prop
  | _, .non => True
  | _, .bl _ => True
  | _, .int _ => True
  | _, .str s => s.length ≤ m ∧ ∀ c ∈ s.cps.toList, c < 128
  | n + 1, .tup ds => ds.length ≤ m ∧ ∀ d ∈ ds, Ok m n d
  | n + 1, .lst ds => ds.length ≤ m ∧ ∀ d ∈ ds, Ok m n d
  | _, _ => False
@[simp] theorem ok_non {m n : Nat} : Ok m n .non := by cases n <;> trivial
@[simp] theorem ok_bl {m n : Nat} {b : Bool} : Ok m n (.bl b) := by cases n <;> trivial
@[simp] theorem ok_int {m n : Nat} {i : Int} : Ok m n (.int i) := by cases n <;> trivial
theorem ok_str {m n : Nat} {s : Str} : Ok m n (.str s) ↔ s.length ≤ m ∧ ∀ c ∈ s.cps.toList, c < 128 := by cases n <;> exact Iff.rfl
theorem ok_tup {m n : Nat} {ds : List D} : Ok m (n + 1) (.tup ds) ↔ ds.length ≤ m ∧ ∀ d ∈ ds, Ok m n d := Iff.rfl
theorem ok_lst {m n : Nat} {ds : List D} : Ok m (n + 1) (.lst ds) ↔ ds.length ≤ m ∧ ∀ d ∈ ds, Ok m n d := Iff.rfl
theorem Ok.mono {m m' : Nat} (hm : m ≤ m') : ∀ {n n' : Nat} {d : D}, n ≤ n' → Ok m n d → Ok m' n' d := by
  intro n
  induction n with
  | zero =>
    intro n' d hn h
    cases d with
    | non => simp
    | bl _ => simp
    | int _ => simp
    | str s => rw [ok_str] at h ⊢; exact ⟨Nat.le_trans h.1 hm, h.2⟩
    | _ => exact h.elim
  | succ n ih =>
    intro n' d hn h
    cases d with
    | non => simp
    | bl _ => simp
    | int _ => simp
    | str s => rw [ok_str] at h ⊢; exact ⟨Nat.le_trans h.1 hm, h.2⟩
    | tup ds =>
      cases n' with
      | zero => omega
      | succ n' => exact ⟨Nat.le_trans h.1 hm, fun d hd => ih (by omega) (h.2 d hd)⟩
    | lst ds =>
      cases n' with
      | zero => omega
      | succ n' => exact ⟨Nat.le_trans h.1 hm, fun d hd => ih (by omega) (h.2 d hd)⟩
    | _ => exact h.elim

mutual
def D.toP : D → PyData
  | .non => .none
  | .bl b => .bool b
  | .int i => .int i
  | .str s => .str s
  | .tup ds => .tuple (D.toPs ds)
  | .lst ds => .list (D.toPs ds)
  | .dct _ _ => .none
  | .scr _ => .none
  | .arg _ => .none
  | .fn _ => .none
  | .exn _ => .none
  | .nd _ _ => .none
def D.toPs : List D → List PyData
  | [] => []
  | d :: ds => D.toP d :: D.toPs ds
end
theorem pys_of {ds : List D} (h : ∀ d ∈ ds, d.py = some d.toP) : D.pys ds = some (D.toPs ds) := by
  induction ds with
  | nil => simp [D.pys, D.toPs]
  | cons d ds ih =>
    rw [D.pys, h d List.mem_cons_self, ih fun d hd => h d (List.mem_cons_of_mem _ hd), D.toPs]
    rfl
theorem layAll_of {ds : List D} (h : ∀ d ∈ ds, d.toP.canLay0 = true) : PyData.canLayAll0 (D.toPs ds) = true := by
  induction ds with
  | nil => simp [D.toPs, PyData.canLayAll0]
  | cons d ds ih =>
    rw [D.toPs, PyData.canLayAll0, h d List.mem_cons_self, ih fun d hd => h d (List.mem_cons_of_mem _ hd)]
    rfl
theorem depthAll_of {ds : List D} {n : Nat} (h : ∀ d ∈ ds, d.toP.depth ≤ n) : PyData.depthAll (D.toPs ds) ≤ n := by
  induction ds with
  | nil => simp [D.toPs, PyData.depthAll]
  | cons d ds ih =>
    rw [D.toPs, PyData.depthAll]
    exact Nat.max_le.mpr ⟨h d List.mem_cons_self, ih fun d hd => h d (List.mem_cons_of_mem _ hd)⟩
theorem Ok.py {m : Nat} : ∀ {n : Nat} {d : D}, Ok m n d → d.py = some d.toP ∧ d.toP.canLay0 = true ∧ d.toP.depth ≤ n := by
  have str : ∀ {s : Str} {n : Nat}, (s.length ≤ m ∧ ∀ c ∈ s.cps.toList, c < 128) → (D.str s).py = some (D.str s).toP ∧ (D.str s).toP.canLay0 = true ∧ (D.str s).toP.depth ≤ n := fun {s n} h => by
    refine ⟨by simp [D.py, D.toP], ?_, by simp [D.toP, PyData.depth]⟩
    simp only [D.toP, PyData.canLay0, PyData.strOk]
    rw [Array.all_eq_true_iff_forall_mem]
    intro c hc
    have := h.2 c (by simpa using hc)
    exact decide_eq_true (by omega)
  intro n
  induction n with
  | zero =>
    intro d h
    cases d with
    | non => simp [D.py, D.toP, PyData.canLay0, PyData.depth]
    | bl _ => simp [D.py, D.toP, PyData.canLay0, PyData.depth]
    | int _ => simp [D.py, D.toP, PyData.canLay0, PyData.depth]
    | str s => exact str (ok_str.mp h)
    | _ => exact h.elim
  | succ n ih =>
    intro d h
    cases d with
    | non => simp [D.py, D.toP, PyData.canLay0, PyData.depth]
    | bl _ => simp [D.py, D.toP, PyData.canLay0, PyData.depth]
    | int _ => simp [D.py, D.toP, PyData.canLay0, PyData.depth]
    | str s => exact str (ok_str.mp h)
    | tup ds =>
      have q := fun d hd => ih (h.2 d hd)
      refine ⟨?_, ?_, ?_⟩
      · rw [D.py, pys_of fun d hd => (q d hd).1, D.toP]; rfl
      · rw [D.toP, PyData.canLay0]; exact layAll_of fun d hd => (q d hd).2.1
      · rw [D.toP, PyData.depth]; exact Nat.succ_le_succ (depthAll_of fun d hd => (q d hd).2.2)
    | lst ds =>
      have q := fun d hd => ih (h.2 d hd)
      refine ⟨?_, ?_, ?_⟩
      · rw [D.py, pys_of fun d hd => (q d hd).1, D.toP]; rfl
      · rw [D.toP, PyData.canLay0]; exact layAll_of fun d hd => (q d hd).2.1
      · rw [D.toP, PyData.depth]; exact Nat.succ_le_succ (depthAll_of fun d hd => (q d hd).2.2)
    | _ => exact h.elim
theorem Ok.shaped {m n : Nat} {d : D} (h : Ok m n d) (hn : n ≤ 64) : SeqAt.shaped d.toP = true := by
  unfold SeqAt.shaped
  rw [h.py.2.1, Bool.true_and]
  exact decide_eq_true (Nat.le_trans h.py.2.2 hn)
def D.eqv (a b : D) : Bool := PyData.eqv a.toP b.toP
theorem eqD_ok {m n m' n' : Nat} {a b : D} (ha : Ok m n a) (hb : Ok m' n' b) (hn : n ≤ 64) (hn' : n' ≤ 64) : eqD a b = some (a.eqv b) := by
  unfold eqD
  rw [ha.py.1, hb.py.1]
  simp only [Option.bind_some]
  rw [ha.shaped hn, hb.shaped hn']
  rfl
theorem eqv_lst_nil (ds : List D) : (D.lst ds).eqv (.lst []) = ds.isEmpty := by
  cases ds <;> simp [D.eqv, D.toP, D.toPs, PyData.eqv, PyData.eqvAll]
@[simp] theorem eqv_bl (a b : Bool) : (D.bl a).eqv (.bl b) = (a == b) := by simp [D.eqv, D.toP, PyData.eqv]
@[simp] theorem eqv_int (a b : Int) : (D.int a).eqv (.int b) = (a == b) := by simp [D.eqv, D.toP, PyData.eqv]
@[simp] theorem eqD_int (a b : Int) : eqD (.int a) (.int b) = some (a == b) := by rw [eqD_ok (m := 0) (n := 0) (m' := 0) (n' := 0) ok_int ok_int (by omega) (by omega), eqv_int]
@[simp] theorem eqD_bl (a b : Bool) : eqD (.bl a) (.bl b) = some (a == b) := by rw [eqD_ok (m := 0) (n := 0) (m' := 0) (n' := 0) ok_bl ok_bl (by omega) (by omega), eqv_bl]
theorem eqv_self : ∀ (n : Nat) {m : Nat} {d : D}, Ok m n d → d.eqv d = true
  | n, m, .non, _ => by simp [D.eqv, D.toP, PyData.eqv]
  | n, m, .bl b, _ => by simp
  | n, m, .int i, _ => by simp
  | n, m, .str s, _ => by simp [D.eqv, D.toP, PyData.eqv]
  | n + 1, m, .tup ds, h => by
    have go : ∀ es : List D, (∀ d ∈ es, Ok m n d) → PyData.eqvAll (D.toPs es) (D.toPs es) = true := fun es => by
      induction es with
      | nil => intro _; simp [D.toPs, PyData.eqvAll]
      | cons e es ih =>
        intro h
        have h1 : PyData.eqv e.toP e.toP = true := eqv_self n (h e (.head _))
        rw [D.toPs, PyData.eqvAll, h1, ih fun d hd => h d (.tail _ hd)]
        rfl
    show PyData.eqv (.tuple (D.toPs ds)) (.tuple (D.toPs ds)) = true
    rw [PyData.eqv]
    exact go ds h.2
  | n + 1, m, .lst ds, h => by
    have go : ∀ es : List D, (∀ d ∈ es, Ok m n d) → PyData.eqvAll (D.toPs es) (D.toPs es) = true := fun es => by
      induction es with
      | nil => intro _; simp [D.toPs, PyData.eqvAll]
      | cons e es ih =>
        intro h
        have h1 : PyData.eqv e.toP e.toP = true := eqv_self n (h e (.head _))
        rw [D.toPs, PyData.eqvAll, h1, ih fun d hd => h d (.tail _ hd)]
        rfl
    show PyData.eqv (.list (D.toPs ds)) (.list (D.toPs ds)) = true
    rw [PyData.eqv]
    exact go ds h.2
  | 0, m, .tup _, h => h.elim
  | 0, m, .lst _, h => h.elim
  | 0, m, .dct _ _, h => h.elim
  | 0, m, .scr _, h => h.elim
  | 0, m, .arg _, h => h.elim
  | 0, m, .fn _, h => h.elim
  | 0, m, .exn _, h => h.elim
  | 0, m, .nd _ _, h => h.elim
  | _ + 1, m, .dct _ _, h => h.elim
  | _ + 1, m, .scr _, h => h.elim
  | _ + 1, m, .arg _, h => h.elim
  | _ + 1, m, .fn _, h => h.elim
  | _ + 1, m, .nd _ _, h => h.elim
theorem eqD_self {n m : Nat} {d : D} (h : Ok m n d) (hn : n ≤ 60) : eqD d d = some true := by rw [eqD_ok h h (by omega) (by omega), eqv_self n h]
end Dt

/-! The draws of the laws' tape, plain. -/
namespace Lw
open Dt PySem
/-- the law's tape: the script's numbers, the place, what is left of the cell -/
def TapeOk (t : D) : Prop := ∃ (ns : List Int) (k r : Int), t = .lst [.lst (ns.map D.int), .int k, .int r]
@[simp] theorem atI_0 {α : Type} (a b c : α) : L2.atI [a, b, c] 0 = some a := rfl
@[simp] theorem atI_1 {α : Type} (a b c : α) : L2.atI [a, b, c] 1 = some b := rfl
@[simp] theorem atI_2 {α : Type} (a b c : α) : L2.atI [a, b, c] 2 = some c := rfl
@[simp] theorem ixN_1 : L2.ixN 3 1 = some 1 := rfl
@[simp] theorem ixN_2 : L2.ixN 3 2 = some 2 := rfl
theorem atI_mod {ns : List Int} (k : Int) (h : 0 < ns.length) : ∃ c, L2.atI (ns.map D.int) (k % ns.length) = some (.int c) := by
  have h1 : 0 ≤ k % (ns.length : Int) := Int.emod_nonneg _ (by omega)
  have h2 : k % (ns.length : Int) < ns.length := Int.emod_lt_of_pos _ (by omega)
  obtain ⟨j, hj⟩ : ∃ j : Nat, k % (ns.length : Int) = j := ⟨(k % (ns.length : Int)).toNat, by omega⟩
  rw [hj] at h2 ⊢
  have hl : j < ns.length := by omega
  exact ⟨ns[j], L2.atI_nat (by simp [hl])⟩
theorem mulA_l (i j : Int) (h1 : -(2 ^ 64) < i) (h2 : i < 2 ^ 64) : CMulA i j := .inl (.inl ⟨h1, h2⟩)
theorem mulA_p (x y : Int) : CMulA (x % 2305843009213693951) y := mulA_l _ _ (by have := Int.emod_nonneg x (b := 2305843009213693951) (by decide); omega) (by have := Int.emod_lt_of_pos x (b := 2305843009213693951) (by decide); omega)
set_option maxHeartbeats 2000000 in
theorem draw_ok {t : D} {m : Int} (ht : TapeOk t) (h0 : 0 < m) (hm : m.natAbs.log2 < 9000) : ∃ v t', m_L_draw [t, .int m] = .ok (.int v) [t'] ∧ TapeOk t' ∧ 0 ≤ v ∧ v < m := by
  obtain ⟨ns, k, r, rfl⟩ := ht
  have fin : ∀ (k' x : Int), 0 ≤ x % m ∧ x % m < m ∧ TapeOk (.lst [.lst (ns.map D.int), .int k', .int (x / m)]) := fun k' x => ⟨Int.emod_nonneg _ (by omega), Int.emod_lt_of_pos _ h0, _, _, _, rfl⟩
  have c1 : ∀ x, L2.CDivW x m := fun x => ⟨h0, hm⟩
  have c2 : L2.CPow 10 18 := ⟨by decide, by decide, by decide⟩
  have c3 : ∀ x, CMulA 1000003 x := fun x => mulA_l _ _ (by decide) (by decide)
  have c4 : ∀ x, CMulA 1181783497276652981 x := fun x => mulA_l _ _ (by decide) (by decide)
  unfold m_L_draw runI b_L_draw u1_L_draw u0_L_draw
  by_cases h1 : r < m
  · by_cases h2 : 0 < ns.length
    · obtain ⟨c, hc⟩ := atI_mod k h2
      by_cases h3 : (ns.length : Int) ≤ k
      · simp [gLt, lexI, gIdx, idxD, h1, gLen, gGt, gGe, gInt, gMod, gI, putD, h2, hc, h3, gPow, c2, gMul, c3, c4, gAdd, mulA_p, gDiv, h0, c1, lastIo]
        exact ⟨_, _, ⟨rfl, rfl⟩, (fin _ _).2.2, (fin 0 _).1, (fin 0 _).2.1⟩
      · by_cases h4 : c < 10 ^ 18
        · have h4' : c < 1000000000000000000 := h4
          simp [gLt, lexI, gIdx, idxD, h1, gLen, gGt, gGe, gInt, gMod, gI, putD, h2, hc, h3, h4', gPow, c2, gMul, c3, c4, gAdd, mulA_p, gDiv, h0, c1, lastIo]
          exact ⟨_, _, ⟨rfl, rfl⟩, (fin _ _).2.2, (fin 0 _).1, (fin 0 _).2.1⟩
        · have h4' : ¬ c < 1000000000000000000 := h4
          simp [gLt, lexI, gIdx, idxD, h1, gLen, gGt, gGe, gInt, gMod, gI, putD, h2, hc, h3, h4', gPow, c2, gMul, c3, c4, gAdd, mulA_p, gDiv, h0, c1, lastIo]
          exact ⟨_, _, ⟨rfl, rfl⟩, (fin _ _).2.2, (fin 0 _).1, (fin 0 _).2.1⟩
    · have e : ns = [] := by cases ns with | nil => rfl | cons a b => simp at h2
      subst e
      by_cases h3 : (0 : Int) ≤ k
      · simp [gLt, lexI, gIdx, idxD, h1, gLen, gGt, gGe, gInt, gMod, gI, putD, h3, gPow, c2, gMul, c3, c4, gAdd, mulA_p, gDiv, h0, c1, lastIo]
        exact ⟨_, _, ⟨rfl, rfl⟩, (fin _ _).2.2, (fin 0 _).1, (fin 0 _).2.1⟩
      · simp [gLt, lexI, gIdx, idxD, h1, gLen, gGt, gGe, gInt, gMod, gI, putD, h3, gPow, c2, gMul, c3, c4, gAdd, mulA_p, gDiv, h0, c1, lastIo]
        exact ⟨_, _, ⟨rfl, rfl⟩, (fin _ _).2.2, (fin 0 _).1, (fin 0 _).2.1⟩
  · simp [gLt, lexI, gIdx, idxD, h1, gLen, gGt, gInt, gMod, gI, putD, gDiv, h0, c1, lastIo]
    exact ⟨_, _, ⟨rfl, rfl⟩, (fin _ _).2.2, (fin 0 _).1, (fin 0 _).2.1⟩
/-- .. by a written number -/
theorem draw_lit {t : D} (m : Int) (ht : TapeOk t) (h0 : 0 < m := by decide) (hm : m < 2 ^ 100 := by decide) : ∃ v t', m_L_draw [t, .int m] = .ok (.int v) [t'] ∧ TapeOk t' ∧ 0 ≤ v ∧ v < m :=
  draw_ok ht h0 (by
    have h : m.natAbs < 2 ^ 100 := by omega
    have := (Nat.log2_lt (by omega)).mpr h
    omega)
end Lw

/-! Small numbers: draws by a length, places, the line of sizes. -/
namespace Lw
open Dt PySem
theorem line4 : (4 : Nat) ≤ sizeLine := line_pos (by decide)
theorem line5 : (5 : Nat) ≤ sizeLine := line_pos (by decide)
theorem line6 : (6 : Nat) ≤ sizeLine := line_pos (by decide)
theorem line7 : (7 : Nat) ≤ sizeLine := line_pos (by decide)
theorem line2 : (2 : Nat) ≤ sizeLine := line_pos (by decide)
/-- an item of a written list at a drawn place -/
theorem atI_in {α : Type} {xs : List α} {i : Int} (h0 : 0 ≤ i) (h : i < xs.length) : ∃ x, L2.atI xs i = some x ∧ x ∈ xs := by
  obtain ⟨j, hj⟩ : ∃ j : Nat, i = j := ⟨i.toNat, by omega⟩
  subst hj
  have hl : j < xs.length := by omega
  exact ⟨xs[j], L2.atI_nat (by simp [hl]), List.getElem_mem hl⟩
theorem line1 : (1 : Nat) ≤ sizeLine := line_pos (by decide)
theorem log_small {m : Nat} (h : m ≤ 100000) : (m : Int).natAbs.log2 < 9000 := by
  have h2 : ((m : Int)).natAbs = m := by omega
  rw [h2]
  by_cases h0 : m = 0
  · subst h0; decide
  · have := (Nat.log2_lt h0).mpr (show m < 2 ^ 100 by omega)
    omega
theorem draw_len {t : D} {m : Nat} (ht : TapeOk t) (h0 : 0 < m) (hm : m ≤ 100000) : ∃ k : Nat, ∃ t', m_L_draw [t, .int m] = .ok (.int k) [t'] ∧ TapeOk t' ∧ k < m := by
  obtain ⟨v, t', e, h, v0, v1⟩ := draw_ok ht (m := (m : Int)) (by omega) (log_small hm)
  obtain ⟨k, rfl⟩ : ∃ k : Nat, v = k := ⟨v.toNat, by omega⟩
  exact ⟨k, t', e, h, by omega⟩
theorem seqIndex_lt {k n : Nat} (h : k < n) : seqIndex? (k : Int) n = some k := by
  unfold seqIndex?
  simp [h]
  split <;> omega
theorem atI_at {α : Type} {xs : List α} {k : Nat} (h : k < xs.length) : L2.atI xs (k : Int) = some xs[k] := L2.atI_nat (by simp [h])
theorem ixN_at {n k : Nat} (h : k < n) : L2.ixN n (k : Int) = some k := by
  unfold L2.ixN
  simp [h]
theorem small_line {n : Nat} (h : n ≤ 100000) : n < sizeLine := Nat.lt_of_le_of_lt h (Nat.lt_of_lt_of_le (by decide : 100000 < 100001) (line_pos (by decide)))
end Lw

/-! Loops that check, lists that are compared with the empty one. -/
namespace Dt
open PySem
/-- a loop that leaves with False at the first item that fails -/
theorem for_check {I : Env → Prop} {g : SG} {s : SS} {p : D → Bool} : ∀ {ds : List D} {ρ : Env}, (∀ d ∈ ds, ∀ ρ, I ρ → ∃ ρ1 ρ2, g d ρ = .ok () ρ1 ∧ s ρ1 = .ok (if p d = true then .nx else .rt (.bl false)) ρ2 ∧ (p d = true → I ρ2)) → I ρ →
    ∃ ρ', forGo g s ds ρ = .ok (if ds.all p = true then .nx else .rt (.bl false)) ρ' ∧ (ds.all p = true → I ρ')
  | [], ρ, _, hi => ⟨ρ, rfl, fun _ => hi⟩
  | d :: ds, ρ, h, hi => by
    obtain ⟨ρ1, ρ2, e1, e2, i2⟩ := h d (List.mem_cons_self) ρ hi
    unfold forGo
    rw [e1, R.bind_ok, e2, R.bind_ok, List.all_cons]
    cases hp : p d with
    | false => exact ⟨ρ2, rfl, fun h => by cases h⟩
    | true => exact for_check (fun d hd => h d (List.mem_cons_of_mem _ hd)) (i2 hp)
theorem bls_map (f : D → Bool) : ∀ ds : List D, blsOf (ds.map fun d => .bl (f d)) = some (ds.map f)
  | [] => rfl
  | d :: ds => by
    rw [List.map_cons, blsOf_cons, bls_map f ds]
    rfl
theorem lst_ne {ds : List D} {m n : Nat} (h : ∀ d ∈ ds, Ok m n d) (hl : ds.length ≤ m) (hn : n ≤ 60) : eqD (.lst ds) (.lst []) = some ds.isEmpty := by
  rw [eqD_ok (m := m) (n := n + 1) (m' := m) (n' := n + 1) (ok_lst.mpr ⟨hl, h⟩) (ok_lst.mpr ⟨by simp, by simp⟩) (by omega) (by omega), eqv_lst_nil]
theorem filt_empty (p : D → Bool) (ps : List D) : (ps.filter fun d => !p d).isEmpty = ps.all p := by
  induction ps with
  | nil => rfl
  | cons d ds ih =>
    cases hd : p d with
    | true => rw [List.filter_cons_of_neg (by simp [hd]), ih, List.all_cons, hd, Bool.true_and]
    | false => rw [List.filter_cons_of_pos (by simp [hd]), List.all_cons, hd, Bool.false_and]; rfl
end Dt

/-! What a name is. -/
namespace Lw
open Dt PySem
def low (c : Nat) : Bool := 97 ≤ c && c ≤ 122
def isN (d : D) : Bool := match d with
  | .str z => decide (1 ≤ z.length ∧ z.length ≤ 8) && z.cps.toList.all low
  | _ => false
def okB (o : Option D) (b : Bool) : Bool := match o with
  | some (.bl k) => k == b
  | _ => false
theorem okB_eq {o : Option D} {b : Bool} (h : okB o b = true) : o = some (.bl b) := by
  unfold okB at h
  split at h
  · rw [eq_of_beq h]
  · cases h
theorem in_letters (c : Nat) (h : c < 128) : gIn [.str ⟨#[c]⟩, .str "abcdefghijklmnopqrstuvwxyz"] = some (.bl (low c)) := okB_eq ((by decide +kernel : ∀ c < 128, okB (gIn [.str ⟨#[c]⟩, .str "abcdefghijklmnopqrstuvwxyz"]) (low c) = true) c h)
def lowD (d : D) : Bool := match d with
  | .str z => z.cps.toList.all low
  | _ => false
theorem signs_low (z : Str) : (signs z).all lowD = z.cps.toList.all low := by
  unfold signs
  rw [List.all_map]
  congr 1
  funext c
  simp [lowD]
theorem signs_len (z : Str) : (signs z).length = z.length := by
  unfold signs
  rw [List.length_map]
  exact Array.length_toList
theorem sign_of {z : Str} {d : D} (h : d ∈ signs z) (ha : ∀ c ∈ z.cps.toList, c < 128) : ∃ c, c < 128 ∧ d = .str ⟨#[c]⟩ ∧ lowD d = low c := by
  unfold signs at h
  obtain ⟨c, hc, rfl⟩ := List.mem_map.mp h
  exact ⟨c, ha c hc, rfl, by simp [lowD]⟩
theorem comp_name {z : Str} (hz : z.length ≤ 1000) (ha : ∀ c ∈ z.cps.toList, c < 128) : c0_is_name [.fro (.str z), .no] = .ok (.lst ((signs z).map fun d => .bl (lowD d))) [.fro (.str z), .no] := by
  have e := comp_map (vs := [1]) (g := gSet 1) (t := tT1) (s := sOps gIn (b2 (sLoc 1) (sVal (sCst (.str "abcdefghijklmnopqrstuvwxyz"))))) (f := fun d => .bl (lowD d)) (p := fun _ => true) (ρ := [.fro (.str z), .no]) (ds := signs z)
    (fun d hd => ⟨[.fro (.str z), .fro d], [.fro (.str z), .fro d], by simp, rfl, by simp [plainAt], by simp [wipeE], fun _ => ⟨[.fro (.str z), .fro d], by
      obtain ⟨c, hc, rfl, e⟩ := sign_of hd ha
      simp [in_letters c hc, e], by simp [plainAt], by simp [wipeE]⟩⟩)
  have hl : (signs z).length ≤ sizeLine := line_pos (by rw [signs_len]; omega)
  have hf : (signs z).filter (fun _ => true) = signs z := List.filter_eq_self.mpr (by simp)
  rw [hf] at e
  unfold c0_is_name sComp
  simp [itemsD, plainAt, hl, wipeE, e, backE]
theorem sign_ok {z : Str} {d : D} {n : Nat} (h : d ∈ signs z) (ha : ∀ c ∈ z.cps.toList, c < 128) : Ok 1000 n d := by
  obtain ⟨c, hc, rfl, _⟩ := sign_of h ha
  rw [ok_str]
  exact ⟨by show (1 : Nat) ≤ 1000; decide, fun x hx => by
    have : x = c := by simpa using hx
    omega⟩
theorem name_ok {d : D} {m n : Nat} (h : Ok m n d) (hm : m ≤ 1000) : m_is_name [d] = .ok (.bl (isN d)) [] := by
  show runP 2 1 b_is_name _ = _
  unfold runP b_is_name
  cases d with
  | str z =>
    obtain ⟨hz, ha⟩ := ok_str.mp h
    have s0 : z.length ≤ sizeLine := line_pos (by omega)
    have e := comp_name (z := z) (by omega) ha
    by_cases h1 : 1 ≤ z.length
    case neg =>
      have h1' : ¬ 1 ≤ (z.length : Int) := by omega
      simp [isT, isTn, tyN, gLen, gLe, lexI, s0, h1', h1, isN, D.truth]
    have h1' : 1 ≤ (z.length : Int) := by omega
    by_cases h8 : z.length ≤ 8
    case neg =>
      have h8' : ¬ (z.length : Int) ≤ 8 := by omega
      simp [isT, isTn, tyN, gLen, gLe, lexI, s0, h1', h1, h8, h8', isN, D.truth]
    have h8' : (z.length : Int) ≤ 8 := by omega
    have hs := signs_low z
    simp [isT, isTn, tyN, gLen, gLe, lexI, s0, h1', h1, h8, h8', isN, D.truth, e, gAll, bls_map]
    rw [hs]
    simp
  | fn _ => cases n <;> exact h.elim
  | exn _ => cases n <;> exact h.elim
  | nd _ _ => cases n <;> exact h.elim
  | _ => simp [isT, isTn, tyN, isN, D.truth]
end Lw

/-! Comprehensions and loops whose walked variable is one slot: the environment is read off the goal. -/
namespace Dt
open PySem
theorem wipe_set {ρ : Env} {i : Nat} {c : Cell} (h : ρ[i]? = some .no) : wipeE (ρ.set i c) [i] = ρ := by
  have hi : i < ρ.length := by
    cases Nat.lt_or_ge i ρ.length with
    | inl h => exact h
    | inr h' => rw [List.getElem?_eq_none h'] at h; cases h
  simp only [wipeE, List.set_set]
  apply List.ext_getElem?
  intro j
  by_cases e : i = j
  · subst e; rw [List.getElem?_set_self hi, h]
  · simp [e]
theorem plain_set {ρ : Env} {i : Nat} {d : D} (h : ρ[i]? = some .no) : plainAt (ρ.set i (.fro d)) [i] = true := by
  have hi : i < ρ.length := by
    cases Nat.lt_or_ge i ρ.length with
    | inl h => exact h
    | inr h' => rw [List.getElem?_eq_none h'] at h; cases h
  simp [plainAt, hi]
theorem set_gSet {ρ : Env} {i : Nat} {d : D} (h : ρ[i]? = some .no) : gSet i d ρ = .ok () (ρ.set i (.fro d)) := by
  rw [ev_gSet, h]
/-- a comprehension with one walked variable: f of the items that p keeps -/
theorem comp1 {i : Nat} {t : ST} {s : SE} {ρ : Env} {ds : List D} (f : D → D) (p : D → Bool) (h0 : ρ[i]? = some .no)
    (h : ∀ d ∈ ds, t (ρ.set i (.fro d)) = .ok (p d) (ρ.set i (.fro d)) ∧ (p d = true → s (ρ.set i (.fro d)) = .ok (f d) (ρ.set i (.fro d)))) :
    compGo [i] (gSet i) t s ds ρ = .ok ((ds.filter p).map f) ρ :=
  comp_map fun d hd => ⟨_, _, set_gSet h0, (h d hd).1, plain_set h0, wipe_set h0, fun hp => ⟨_, (h d hd).2 hp, plain_set h0, wipe_set h0⟩⟩
/-- .. without a test -/
theorem comp1a {i : Nat} {s : SE} {ρ : Env} {ds : List D} (f : D → D) (h0 : ρ[i]? = some .no)
    (h : ∀ d ∈ ds, s (ρ.set i (.fro d)) = .ok (f d) (ρ.set i (.fro d))) : compGo [i] (gSet i) tT1 s ds ρ = .ok (ds.map f) ρ := by
  rw [comp1 (t := tT1) f (fun _ => true) h0 fun d hd => ⟨rfl, fun _ => h d hd⟩, List.filter_eq_self.mpr fun _ _ => rfl]
/-- .. over coded items -/
theorem comp1e {α : Type} {enc : α → D} {i : Nat} {s : SE} {ρ : Env} {xs : List α} (F : α → D) (h0 : ρ[i]? = some .no)
    (h : ∀ x ∈ xs, s (ρ.set i (.fro (enc x))) = .ok (F x) (ρ.set i (.fro (enc x)))) : compGo [i] (gSet i) tT1 s (xs.map enc) ρ = .ok (xs.map F) ρ := by
  induction xs with
  | nil => rfl
  | cons x xs ih =>
    rw [List.map_cons]
    unfold compGo
    rw [set_gSet h0, R.bind_ok]
    show (s _).bind _ = _
    rw [h x (.head _), R.bind_ok, if_pos (plain_set h0), wipe_set h0, ih fun y hy => h y (.tail _ hy)]
    rfl
theorem comp1f {α : Type} {enc : α → D} {i : Nat} {t : ST} {s : SE} {ρ : Env} {xs : List α} (F : α → D) (p : α → Bool) (h0 : ρ[i]? = some .no)
    (h : ∀ x ∈ xs, t (ρ.set i (.fro (enc x))) = .ok (p x) (ρ.set i (.fro (enc x))) ∧ (p x = true → s (ρ.set i (.fro (enc x))) = .ok (F x) (ρ.set i (.fro (enc x))))) : compGo [i] (gSet i) t s (xs.map enc) ρ = .ok ((xs.filter p).map F) ρ := by
  induction xs with
  | nil => rfl
  | cons x xs ih =>
    have ih := ih fun y hy => h y (.tail _ hy)
    obtain ⟨h1, h2⟩ := h x (.head _)
    rw [List.map_cons]
    unfold compGo
    rw [set_gSet h0, R.bind_ok, h1, R.bind_ok]
    cases hp : p x with
    | false =>
      show (if plainAt _ _ = true then _ else _) = _
      rw [if_pos (plain_set h0), wipe_set h0, ih, List.filter_cons_of_neg (by simp [hp])]
    | true =>
      show (s _).bind _ = _
      rw [h2 hp, R.bind_ok, if_pos (plain_set h0), wipe_set h0, ih, List.filter_cons_of_pos (by simp [hp])]
      rfl
end Dt

/-! The law's turns: plain cells, statements one by one, where a turn lands. -/
namespace Dt
open PySem
/-- a cell that is no object of one's own -/
def pl : Option D → Cell
  | none => .no
  | some d => .fro d
/-- what may be set anew -/
def soft : Option Cell → Bool
  | some (.io _) => false
  | none => false
  | _ => true
@[simp] theorem soft_pl (x : Option D) : soft (some (pl x)) = true := by cases x <;> rfl
@[simp] theorem soft_no : soft (some .no) = true := rfl
@[simp] theorem soft_fro (d : D) : soft (some (.fro d)) = true := rfl
@[simp] theorem soft_own (d : D) : soft (some (.own d)) = true := rfl
theorem gSet_soft {i : Nat} {d : D} {ρ : Env} (h : soft ρ[i]? = true) : gSet i d ρ = .ok () (ρ.set i (.fro d)) := by
  rw [ev_gSet]
  generalize ρ[i]? = c at h
  rcases c with _ | c
  · cases h
  · cases c <;> first | rfl | cases h
theorem gOwn_soft {i : Nat} {d : D} {ρ : Env} (h : soft ρ[i]? = true) : gOwn i d ρ = .ok () (ρ.set i (.own d)) := by
  rw [ev_gOwn]
  generalize ρ[i]? = c at h
  rcases c with _ | c
  · cases h
  · cases c <;> first | rfl | cases h
/-- plain cells alone -/
def PlnA (cs : List Cell) : Prop := ∀ c ∈ cs, ∃ x, c = pl x
@[simp] theorem plnA_nil : PlnA [] := fun _ h => nomatch h
@[simp] theorem plnA_cons {c : Cell} {cs : List Cell} : PlnA (c :: cs) ↔ (∃ x, c = pl x) ∧ PlnA cs := List.forall_mem_cons
@[simp] theorem pln_fro (d : D) : ∃ x, Cell.fro d = pl x := ⟨some d, rfl⟩
@[simp] theorem pln_no : ∃ x, Cell.no = pl x := ⟨none, rfl⟩
@[simp] theorem pln_pl (y : Option D) : ∃ x, pl y = pl x := ⟨y, rfl⟩
theorem PlnA.map {cs : List Cell} (h : PlnA cs) : ∃ xs : List (Option D), cs = xs.map pl := by
  induction cs with
  | nil => exact ⟨[], rfl⟩
  | cons c cs ih =>
    obtain ⟨⟨x, rfl⟩, h2⟩ := plnA_cons.mp h
    obtain ⟨xs, rfl⟩ := ih h2
    exact ⟨x :: xs, rfl⟩
/-- what a comprehension's own cell may hold -/
def plainC : Option Cell → Bool
  | some .no => true
  | some (.fro _) => true
  | _ => false
@[simp] theorem plainC_pl (x : Option D) : plainC (some (pl x)) = true := by cases x <;> rfl
@[simp] theorem plainC_no : plainC (some .no) = true := rfl
@[simp] theorem plainC_fro (d : D) : plainC (some (.fro d)) = true := rfl
theorem plain_nil {ρ : Env} : plainAt ρ [] = true := rfl
theorem plain_cons {ρ : Env} {v : Nat} {vs : List Nat} : plainAt ρ (v :: vs) = (plainC ρ[v]? && plainAt ρ vs) := by
  unfold plainAt plainC
  rw [List.all_cons]
  all_goals (congr 1)
/-- a cell that may be set anew -/
inductive Sl | n | f (d : D) | o (d : D)
def sf : Sl → Cell
  | .n => .no
  | .f d => .fro d
  | .o d => .own d
@[simp] theorem soft_sf (x : Sl) : soft (some (sf x)) = true := by cases x <;> rfl
@[simp] theorem sf_no : ∃ x, Cell.no = sf x := ⟨.n, rfl⟩
@[simp] theorem sf_fro (d : D) : ∃ x, Cell.fro d = sf x := ⟨.f d, rfl⟩
@[simp] theorem sf_own (d : D) : ∃ x, Cell.own d = sf x := ⟨.o d, rfl⟩
@[simp] theorem sf_sf (y : Sl) : ∃ x, sf y = sf x := ⟨y, rfl⟩
@[simp] theorem sf_pl (y : Option D) : ∃ x, pl y = sf x := by
  cases y with
  | none => exact ⟨.n, rfl⟩
  | some d => exact ⟨.f d, rfl⟩
/-- plain where told so, else such as may be set anew -/
def Fits : List Bool → List Cell → Prop
  | [], [] => True
  | true :: bs, c :: cs => (∃ x, c = pl x) ∧ Fits bs cs
  | false :: bs, c :: cs => (∃ x, c = sf x) ∧ Fits bs cs
  | _, _ => False
@[simp] theorem fits_nil : Fits [] [] = True := rfl
@[simp] theorem fits_t {bs : List Bool} {c : Cell} {cs : List Cell} : Fits (true :: bs) (c :: cs) = ((∃ x, c = pl x) ∧ Fits bs cs) := rfl
@[simp] theorem fits_f {bs : List Bool} {c : Cell} {cs : List Cell} : Fits (false :: bs) (c :: cs) = ((∃ x, c = sf x) ∧ Fits bs cs) := rfl
theorem Fits.t {bs : List Bool} {cs : List Cell} (h : Fits (true :: bs) cs) : ∃ x cs', cs = pl x :: cs' ∧ Fits bs cs' := by
  cases cs with
  | nil => exact h.elim
  | cons c cs => obtain ⟨⟨x, rfl⟩, h⟩ := h; exact ⟨x, cs, rfl, h⟩
theorem Fits.f {bs : List Bool} {cs : List Cell} (h : Fits (false :: bs) cs) : ∃ x cs', cs = sf x :: cs' ∧ Fits bs cs' := by
  cases cs with
  | nil => exact h.elim
  | cons c cs => obtain ⟨⟨x, rfl⟩, h⟩ := h; exact ⟨x, cs, rfl, h⟩
theorem Fits.z {cs : List Cell} (h : Fits [] cs) : cs = [] := by
  cases cs with
  | nil => rfl
  | cons c cs => exact h.elim
theorem seq_nx {a b : SS} {ρ ρ' : Env} (h : a ρ = .ok .nx ρ') : sSeq a b ρ = b ρ' := by rw [ev_seq, h]; rfl
/-- a statement that goes on, to where Q holds -/
def Ends (r : R Fl) (Q : Env → Prop) : Prop := ∃ ρ', r = .ok .nx ρ' ∧ Q ρ'
theorem Ends.seq {a b : SS} {ρ ρ' : Env} {Q : Env → Prop} (h : a ρ = .ok .nx ρ') (k : Ends (b ρ') Q) : Ends (sSeq a b ρ) Q := by
  unfold Ends; rw [seq_nx h]; exact k
theorem Ends.seq' {a b : SS} {ρ : Env} {Q P : Env → Prop} (h : Ends (a ρ) P) (k : ∀ ρ', P ρ' → Ends (b ρ') Q) : Ends (sSeq a b ρ) Q := by
  obtain ⟨ρ', e, p⟩ := h
  exact Ends.seq e (k ρ' p)
theorem Ends.one {s : SS} {ρ ρ' : Env} {Q : Env → Prop} (h : s ρ = .ok .nx ρ') (q : Q ρ') : Ends (s ρ) Q := ⟨ρ', h, q⟩
end Dt
namespace Lw
open Dt PySem
theorem add_lst {a b : List D} (h : a.length + b.length ≤ 100000) : gAdd [.lst a, .lst b] = some (.lst (a ++ b)) := by
  show (if a.length + b.length ≤ sizeLine then some (D.lst (a ++ b)) else none) = _
  rw [if_pos (line_pos (by omega))]
theorem add_tup {a b : List D} (h : a.length + b.length ≤ 100000) : gAdd [.tup a, .tup b] = some (.tup (a ++ b)) := by
  show (if a.length + b.length ≤ sizeLine then some (D.tup (a ++ b)) else none) = _
  rw [if_pos (line_pos (by omega))]
/-- a turn's end: the script, the tape, plain cells -/
def Land (S : D) (n : Nat) (ρ : Dt.Env) : Prop := ∃ t cs, ρ = .fro S :: .own t :: cs ∧ TapeOk t ∧ cs.length = n ∧ PlnA cs
theorem land_turns {S : D} {n : Nat} {s : SS} {ds : List D} (h : ∀ d ∈ ds, ∀ (t : D) (xs : List (Option D)), TapeOk t → xs.length = n → Ends (s (.fro S :: .own t :: .fro d :: xs.map pl)) (Land S (n + 1))) {ρ : Dt.Env} (hρ : Land S (n + 1) ρ) : Ends (forGo (gSet 2) s ds ρ) (Land S (n + 1)) :=
  for_inv (fun d hd ρ ⟨t, cs, e, ht, hl, hc⟩ => by
    obtain ⟨xs, rfl⟩ := hc.map
    subst e
    cases xs with
    | nil => cases hl
    | cons x xs =>
      have g : gSet 2 d (.fro S :: .own t :: (x :: xs).map pl) = .ok () (.fro S :: .own t :: .fro d :: xs.map pl) := by
        rw [gSet_soft (by simp)]; rfl
      obtain ⟨ρ', e, hL⟩ := h d hd t xs ht (by simpa using hl)
      exact ⟨_, ρ', .nx, g, e, .inl rfl, hL⟩) hρ
/-- .. with cells as told -/
def LandM (S : D) (ms : List Bool) (ρ : Dt.Env) : Prop := ∃ t cs, ρ = .fro S :: .own t :: cs ∧ TapeOk t ∧ Fits ms cs
theorem landM_turns {S : D} {ms : List Bool} {s : SS} {ds : List D} (h : ∀ d ∈ ds, ∀ (t : D) (cs : List Cell), TapeOk t → Fits ms cs → Ends (s (.fro S :: .own t :: .fro d :: cs)) (LandM S (true :: ms))) {ρ : Dt.Env} (hρ : LandM S (true :: ms) ρ) : Ends (forGo (gSet 2) s ds ρ) (LandM S (true :: ms)) :=
  for_inv (fun d hd ρ ⟨t, cs, e, ht, hc⟩ => by
    obtain ⟨x, cs, rfl, hc2⟩ := hc.t
    subst e
    have g : gSet 2 d (.fro S :: .own t :: pl x :: cs) = .ok () (.fro S :: .own t :: .fro d :: cs) := by
      rw [gSet_soft (by simp)]; rfl
    obtain ⟨ρ', e, hL⟩ := h d hd t cs ht hc2
    exact ⟨_, ρ', .nx, g, e, .inl rfl, hL⟩) hρ
end Lw

/-! Texts once each, names: small facts. -/
namespace Dt
open PySem
theorem foldl_kind : ∀ (l σ : List Str), l.Nodup → l.foldl kindS σ = σ ++ l.filter fun k => !decide (k ∈ σ)
  | [], σ, _ => by simp
  | x :: l, σ, h => by
    obtain ⟨h1, h2⟩ := List.nodup_cons.mp h
    rw [List.foldl_cons, foldl_kind l _ h2]
    unfold kindS
    by_cases hx : x ∈ σ
    · rw [if_pos hx, List.filter_cons_of_neg (by simp [hx])]
    · rw [if_neg hx, List.filter_cons_of_pos (by simp [hx]), List.append_assoc, List.singleton_append]
      congr 2
      refine List.filter_congr fun y hy => ?_
      have : y ≠ x := fun e => h1 (e ▸ hy)
      simp [this]
theorem kinds_nd {l : List Str} (h : l.Nodup) : kinds l = l := by
  unfold kinds
  rw [foldl_kind l [] h]
  simp
@[simp] theorem keyOf_str (x : Str) : keyOf (.str x) = some (.inr x) := rfl
theorem dPut_kind (σ : List Str) (vs : List D) (x : Str) (z : D) : (dPut (σ.map Sum.inr) vs (Sum.inr x) z).1 = (kindS σ x).map (Sum.inr (α := Int)) := by
  have e : ((σ.map (Sum.inr (α := Int))).any fun k' => decide (k' = Sum.inr x)) = decide (x ∈ σ) := by
    rw [Bool.eq_iff_iff, List.any_eq_true, decide_eq_true_iff]
    constructor
    · rintro ⟨k, hk, e⟩
      obtain ⟨y, hy, rfl⟩ := List.mem_map.mp hk
      have e := of_decide_eq_true e
      cases e
      exact hy
    · exact fun h => ⟨_, List.mem_map.mpr ⟨x, h, rfl⟩, by simp⟩
  unfold dPut kindS
  rw [e]
  by_cases h : x ∈ σ
  · rw [if_pos (by simpa using h), if_pos h]
  · rw [if_neg (by simpa using h), if_neg h, List.map_append]
    rfl
end Dt
namespace Lw
open Dt PySem
/-- a text that is a name -/
def NmOk (x : Str) : Prop := (x.length ≤ 8 ∧ ∀ c ∈ x.cps.toList, c < 128) ∧ isN (.str x) = true
end Lw

/-! One of a list, drawn. -/
namespace Lw
open Dt PySem
theorem of_ok {t : D} {ds : List D} (h : TapeOk t) (h0 : 0 < ds.length) (h1 : ds.length ≤ 100000) : ∃ k t', ∃ hk : k < ds.length, m_L_of [t, .lst ds] = .ok ds[k] [t'] ∧ TapeOk t' := by
  obtain ⟨k, t', e, h', hk⟩ := draw_len h h0 h1
  refine ⟨k, t', hk, ?_, h'⟩
  show runI 2 2 b_L_of [t, .lst ds] = _
  unfold runI b_L_of
  simp [gLen, e, gIdx, idxD, atI_at hk, lastIo]
end Lw

/-! Counters as rows of keys with counts, without the program. -/
namespace Dt
open PySem
abbrev CL := List (Str × Int)
def keysC (C : CL) : List Str := C.map (·.1)
def look : CL → Str → Option Int
  | [], _ => none
  | p :: C, x => if p.1 = x then some p.2 else look C x
def val (C : CL) (x : Str) : Int := (look C x).getD 0
def mkC (ks : List Str) (f : Str → Option Int) : CL := ks.filterMap fun k => (f k).map fun c => (k, c)
def restK (A B : CL) : List Str := (keysC B).filter fun k => !decide (k ∈ keysC A)
def allK (A B : CL) : List Str := keysC A ++ restK A B
def joinC (w : Option Int → Option Int → Option Int) (A B : CL) : CL := mkC (allK A B) fun k => w (look A k) (look B k)
def posO (x : Int) : Option Int := if 0 < x then some x else none
def turnC (s : Int) (C : CL) : CL := C.filterMap fun p => (posO (s * p.2)).map fun c => (p.1, c)
def ctS (s : Int) : Option Int → Option Int → Option Int
  | none, none => none
  | a, b => some (a.getD 0 + s * b.getD 0)
def ctP (f : Int → Int → Int) : Option Int → Option Int → Option Int
  | none, none => none
  | a, b => posO (f (a.getD 0) (b.getD 0))
def mx (i j : Int) : Int := if j > i then j else i
def mn (i j : Int) : Int := if j < i then j else i
def ctL : Option Int → Option Int → Option Int
  | none, _ => none
  | a, b => posO (mn (a.getD 0) (b.getD 0))
def addC := joinC (ctP fun a b => a + b)
def lessC := joinC (ctP fun a b => a - b)
def mostC := joinC (ctP mx)
def leastC := joinC ctL
def updC := joinC (ctS 1)
def subC := joinC (ctS (-1))
def totC (C : CL) : Int := (C.map (·.2)).sum
/-- a counter whose keys the law draws, of at most so many keys -/
structure CV (P : Str → Prop) (n : Nat) (C : CL) : Prop where
  nd : (keysC C).Nodup
  keys : ∀ x ∈ keysC C, P x
  len : C.length ≤ n
def Prp (C : CL) : Prop := ∀ p ∈ C, 1 ≤ p.2
theorem look_cons {p : Str × Int} {C : CL} {x : Str} : look (p :: C) x = if p.1 = x then some p.2 else look C x := rfl
theorem look_none {C : CL} {x : Str} : look C x = none ↔ x ∉ keysC C := by
  induction C with
  | nil => simp [look, keysC]
  | cons p C ih =>
    unfold look
    by_cases h : p.1 = x
    · rw [if_pos h]; simp [keysC, h]
    · rw [if_neg h, ih]; simp [keysC, Ne.symm h]
theorem look_mem {C : CL} {x : Str} {c : Int} (h : look C x = some c) : (x, c) ∈ C := by
  induction C with
  | nil => cases h
  | cons p C ih =>
    unfold look at h
    split at h
    · rename_i e; cases h; subst e; exact .head _
    · exact .tail _ (ih h)
theorem look_of {C : CL} (nd : (keysC C).Nodup) {p : Str × Int} (h : p ∈ C) : look C p.1 = some p.2 := by
  induction C with
  | nil => cases h
  | cons q C ih =>
    have nd' : q.1 ∉ keysC C ∧ (keysC C).Nodup := List.nodup_cons.mp nd
    unfold look
    rcases List.mem_cons.mp h with rfl | h
    · rw [if_pos rfl]
    · rw [if_neg fun e => nd'.1 (by rw [e]; exact List.mem_map.mpr ⟨p, h, rfl⟩), ih nd'.2 h]
theorem Prp.lk {C : CL} (h : Prp C) {x : Str} {c : Int} (e : look C x = some c) : 1 ≤ c := h _ (look_mem e)
theorem look_mk {ks : List Str} {f : Str → Option Int} {x : Str} : look (mkC ks f) x = if x ∈ ks then f x else none := by
  induction ks with
  | nil => rfl
  | cons k ks ih =>
    unfold mkC at ih ⊢
    rw [List.filterMap_cons]
    by_cases e : k = x
    · subst e
      rw [if_pos (List.mem_cons_self)]
      cases ef : f k with
      | none =>
        simp only [Option.map_none]
        rw [ih, ef]; split <;> rfl
      | some c => simp [look]
    · have : (x ∈ k :: ks) = (x ∈ ks) := by simp [Ne.symm e]
      simp only [this]
      cases ef : f k with
      | none => simp only [Option.map_none]; exact ih
      | some c => simp only [Option.map_some]; unfold look; rw [if_neg e]; exact ih
theorem mem_allK {A B : CL} {x : Str} : x ∈ allK A B ↔ x ∈ keysC A ∨ x ∈ keysC B := by
  unfold allK restK
  rw [List.mem_append, List.mem_filter]
  by_cases h : x ∈ keysC A <;> simp [h]
theorem look_join {w : Option Int → Option Int → Option Int} (h0 : w none none = none) (A B : CL) (x : Str) : look (joinC w A B) x = w (look A x) (look B x) := by
  unfold joinC
  rw [look_mk]
  by_cases h : x ∈ allK A B
  · rw [if_pos h]
  · rw [if_neg h, mem_allK, not_or] at *
    rw [look_none.mpr h.1, look_none.mpr h.2, h0]
theorem look_turn {s : Int} {C : CL} (nd : (keysC C).Nodup) (x : Str) : look (turnC s C) x = (look C x).bind fun c => posO (s * c) := by
  induction C with
  | nil => rfl
  | cons p C ih =>
    have nd' : p.1 ∉ keysC C ∧ (keysC C).Nodup := List.nodup_cons.mp nd
    have ih := ih nd'.2
    unfold turnC at ih ⊢
    rw [List.filterMap_cons]
    by_cases e : p.1 = x
    · have hn : look C x = none := look_none.mpr (e ▸ nd'.1)
      rw [hn] at ih
      cases ef : posO (s * p.2) with
      | none => simp only [Option.map_none]; rw [ih]; simp [look, e, ef]
      | some c => simp [look, e, ef]
    · cases ef : posO (s * p.2) with
      | none => simp only [Option.map_none]; rw [ih]; simp [look, e]
      | some c => simp only [Option.map_some]; unfold look; rw [if_neg e, if_neg e]; exact ih
/-! ### keys -/
theorem keys_mk {ks : List Str} {f : Str → Option Int} : (keysC (mkC ks f)).Sublist ks := by
  induction ks with
  | nil => exact List.Sublist.slnil
  | cons k ks ih =>
    unfold mkC keysC at ih ⊢
    rw [List.filterMap_cons]
    cases f k with
    | none => exact ih.cons _
    | some c => exact ih.cons₂ _
theorem keys_turn {s : Int} {C : CL} : (keysC (turnC s C)).Sublist (keysC C) := by
  induction C with
  | nil => exact List.Sublist.slnil
  | cons p C ih =>
    unfold turnC keysC at ih ⊢
    rw [List.filterMap_cons]
    cases posO (s * p.2) with
    | none => exact ih.cons _
    | some c => exact ih.cons₂ _
theorem nd_allK {A B : CL} (a : (keysC A).Nodup) (b : (keysC B).Nodup) : (allK A B).Nodup := by
  unfold allK restK
  refine List.nodup_append.mpr ⟨a, b.sublist List.filter_sublist, fun x hx y hy e => ?_⟩
  subst e
  have := (List.mem_filter.mp hy).2
  simp [hx] at this
theorem len_keys {C : CL} : (keysC C).length = C.length := List.length_map ..
theorem CV.mono {P : Str → Prop} {n m : Nat} {C : CL} (h : CV P n C) (l : n ≤ m) : CV P m C := ⟨h.nd, h.keys, Nat.le_trans h.len l⟩
theorem CV.imp {P Q : Str → Prop} {n : Nat} {C : CL} (h : CV P n C) (w : ∀ x, P x → Q x) : CV Q n C := ⟨h.nd, fun x hx => w x (h.keys x hx), h.len⟩
theorem CV.join {P : Str → Prop} {n m : Nat} {A B : CL} (a : CV P n A) (b : CV P m B) (w : Option Int → Option Int → Option Int) : CV P (n + m) (joinC w A B) := by
  refine ⟨(nd_allK a.nd b.nd).sublist keys_mk, fun x hx => ?_, ?_⟩
  · rcases mem_allK.mp (keys_mk.subset hx) with h | h
    · exact a.keys x h
    · exact b.keys x h
  · show (joinC w A B).length ≤ n + m
    have h1 : (mkC (allK A B) fun k => w (look A k) (look B k)).length ≤ (allK A B).length := List.length_filterMap_le ..
    have h2 : (restK A B).length ≤ (keysC B).length := List.length_filter_le ..
    have h3 : (allK A B).length = (keysC A).length + (restK A B).length := List.length_append
    rw [len_keys] at h2 h3
    have := a.len
    have := b.len
    unfold joinC
    omega
theorem CV.turn {P : Str → Prop} {n : Nat} {C : CL} (h : CV P n C) (s : Int) : CV P n (turnC s C) :=
  ⟨h.nd.sublist keys_turn, fun x hx => h.keys x (keys_turn.subset hx), Nat.le_trans (List.length_filterMap_le ..) h.len⟩
theorem CV.nil {P : Str → Prop} {n : Nat} : CV P n [] := ⟨List.nodup_nil, fun _ h => (nomatch h), Nat.zero_le _⟩
/-! ### rows made of keys -/
theorem mk_congr {ks : List Str} {f g : Str → Option Int} (h : ∀ k ∈ ks, f k = g k) : mkC ks f = mkC ks g := by
  induction ks with
  | nil => rfl
  | cons k ks ih =>
    have ih := ih fun k hk => h k (.tail _ hk)
    unfold mkC at ih ⊢
    rw [List.filterMap_cons, List.filterMap_cons, h k (.head _), ih]
theorem mk_none {ks : List Str} {f : Str → Option Int} : mkC ks f = [] ↔ ∀ k ∈ ks, f k = none := by
  induction ks with
  | nil => simp [mkC]
  | cons k ks ih =>
    unfold mkC at ih ⊢
    rw [List.filterMap_cons]
    cases e : f k with
    | none => simp only [Option.map_none]; rw [ih]; simp [e]
    | some c => simp [e]
theorem mk_keys {C : CL} (nd : (keysC C).Nodup) : mkC (keysC C) (look C) = C := by
  have go : ∀ D : CL, (∀ p ∈ D, look C p.1 = some p.2) → mkC (keysC D) (look C) = D := fun D => by
    induction D with
    | nil => exact fun _ => rfl
    | cons p D ih =>
      intro h
      have ih := ih fun q hq => h q (.tail _ hq)
      unfold mkC keysC at ih ⊢
      rw [List.map_cons, List.filterMap_cons, h p (.head _), ih]
      rfl
  exact go C fun p hp => look_of nd hp
theorem mk_append {ks ls : List Str} {f : Str → Option Int} : mkC (ks ++ ls) f = mkC ks f ++ mkC ls f := List.filterMap_append ..
theorem turn_mk {s : Int} {ks : List Str} {f : Str → Option Int} : turnC s (mkC ks f) = mkC ks fun k => (f k).bind fun c => posO (s * c) := by
  unfold turnC mkC
  rw [List.filterMap_filterMap]
  congr 1
  funext k
  dsimp only
  cases e : f k with
  | none => rfl
  | some c => rfl
theorem keys_all {ks : List Str} {f : Str → Option Int} (h : ∀ k ∈ ks, (f k).isSome = true) : keysC (mkC ks f) = ks := by
  induction ks with
  | nil => rfl
  | cons k ks ih =>
    have ih := ih fun k hk => h k (.tail _ hk)
    have h0 := h k (.head _)
    unfold mkC keysC at ih ⊢
    rw [List.filterMap_cons]
    cases e : f k with
    | none => rw [e] at h0; cases h0
    | some c => simp only [Option.map_some, List.map_cons]; rw [ih]
/-! ### the laws -/
theorem posO_none {x : Int} : posO x = none ↔ x ≤ 0 := by
  unfold posO
  split
  · simp; omega
  · simp; omega
theorem posO_val (x : Int) : (posO x).getD 0 = mx 0 x := by
  unfold posO mx
  split <;> rfl
theorem add_law (A B : CL) : addC A B = turnC 1 (updC A B) := by
  unfold addC updC joinC
  rw [turn_mk]
  refine mk_congr fun k _ => ?_
  cases look A k <;> cases look B k <;> simp [ctP, ctS]
theorem less_law (A B : CL) : lessC A B = turnC 1 (subC A B) := by
  unfold lessC subC joinC
  rw [turn_mk]
  refine mk_congr fun k _ => ?_
  cases look A k <;> cases look B k <;> simp [ctP, ctS] <;> congr 1 <;> omega
theorem plus_plus (C : CL) : turnC 1 (turnC 1 C) = turnC 1 C := by
  unfold turnC
  rw [List.filterMap_filterMap]
  congr 1
  funext p
  unfold posO
  by_cases h : 0 < 1 * p.2
  · simp only [if_pos h, Option.map_some, Option.bind_some]
    rw [if_pos (by omega)]
    simp
  · simp only [if_neg h, Option.map_none, Option.bind_none]
theorem val_join {w : Option Int → Option Int → Option Int} (h0 : w none none = none) (A B : CL) (x : Str) : val (joinC w A B) x = (w (look A x) (look B x)).getD 0 := by
  unfold val
  rw [look_join h0]
theorem val_upd (A B : CL) (x : Str) : val (updC A B) x = val A x + val B x := by
  unfold updC
  rw [val_join rfl]
  unfold val
  cases look A x <;> cases look B x <;> simp [ctS]
theorem val_sub (A B : CL) (x : Str) : val (subC A B) x = val A x - val B x := by
  unfold subC
  rw [val_join rfl]
  unfold val
  cases look A x <;> cases look B x <;> simp [ctS] <;> omega
theorem val_add (A B : CL) (x : Str) : val (addC A B) x = mx 0 (val A x + val B x) := by
  unfold addC
  rw [val_join rfl]
  unfold val
  cases look A x <;> cases look B x <;> simp [ctP, posO_val, mx]
theorem val_less (A B : CL) (x : Str) : val (lessC A B) x = mx 0 (val A x - val B x) := by
  unfold lessC
  rw [val_join rfl]
  unfold val
  cases look A x <;> cases look B x <;> simp [ctP, posO_val, mx]
theorem val_most (A B : CL) (x : Str) : val (mostC A B) x = mx 0 (mx (val A x) (val B x)) := by
  unfold mostC
  rw [val_join rfl]
  unfold val
  cases look A x <;> cases look B x <;> simp [ctP, posO_val, mx]
theorem val_least (A B : CL) (x : Str) : val (leastC A B) x = if look A x = none then 0 else mx 0 (mn (val A x) (val B x)) := by
  unfold leastC
  rw [val_join rfl]
  unfold val
  cases look A x <;> cases look B x <;> simp [ctL, posO_val]
theorem val_turn {s : Int} {C : CL} (nd : (keysC C).Nodup) (x : Str) : val (turnC s C) x = mx 0 (s * val C x) := by
  unfold val
  rw [look_turn nd]
  cases look C x <;> simp [posO_val, mx]
theorem val_prp {C : CL} (h : Prp C) (x : Str) : 0 ≤ val C x := by
  unfold val
  cases e : look C x with
  | none => simp
  | some c => have := h.lk e; simp; omega
theorem val_none {C : CL} {x : Str} (h : look C x = none) : val C x = 0 := by unfold val; rw [h]; rfl
theorem Prp.turn {C : CL} : Prp (turnC 1 C) := fun p hp => by
  obtain ⟨q, _, e⟩ := List.mem_filterMap.mp hp
  unfold posO at e
  split at e
  · cases e; show 1 ≤ 1 * q.2; omega
  · cases e
/-- sums over keys -/
theorem sum_ind {L : List Str} (nd : L.Nodup) {k : Str} (h : k ∈ L) (c : Int) (f : Str → Int) : (L.map fun x => (if k = x then c else 0) + f x).sum = c + (L.map f).sum := by
  have none : ∀ M : List Str, k ∉ M → (M.map fun x => (if k = x then c else 0) + f x).sum = (M.map f).sum := fun M => by
    induction M with
    | nil => exact fun _ => rfl
    | cons y M ih =>
      intro hn
      have h1 : k ≠ y := fun e => hn (e ▸ .head _)
      rw [List.map_cons, List.map_cons, List.sum_cons, List.sum_cons, ih fun m => hn (.tail _ m), if_neg h1, Int.zero_add]
  induction L with
  | nil => cases h
  | cons y L ih =>
    obtain ⟨n1, n2⟩ := List.nodup_cons.mp nd
    rw [List.map_cons, List.map_cons, List.sum_cons, List.sum_cons]
    by_cases e : k = y
    · subst e
      rw [if_pos rfl, none L n1]; omega
    · rw [if_neg e, ih n2 ((List.mem_cons.mp h).resolve_left e)]; omega
theorem tot_over {C : CL} (nd : (keysC C).Nodup) {L : List Str} (nl : L.Nodup) (sub : ∀ x ∈ keysC C, x ∈ L) : (L.map (val C)).sum = totC C := by
  induction C with
  | nil =>
    have : ∀ M : List Str, (M.map (val [])).sum = 0 := fun M => by
      induction M with
      | nil => rfl
      | cons y M ih => rw [List.map_cons, List.sum_cons, ih]; rfl
    exact this L
  | cons p C ih =>
    obtain ⟨n1, n2⟩ : p.1 ∉ keysC C ∧ (keysC C).Nodup := List.nodup_cons.mp nd
    have e : val (p :: C) = fun x => (if p.1 = x then p.2 else 0) + val C x := by
      funext x
      unfold val
      show ((look (p :: C) x).getD 0 : Int) = _
      rw [look_cons]
      by_cases e : p.1 = x
      · rw [if_pos e, if_pos e, look_none.mpr (e ▸ n1)]; simp
      · rw [if_neg e, if_neg e, Int.zero_add]
    rw [e, sum_ind nl (sub _ (.head _)), ih n2 fun x hx => sub x (.tail _ hx)]
    show p.2 + totC C = totC (p :: C)
    unfold totC
    rw [List.map_cons, List.sum_cons]
theorem tot_mk {ks : List Str} {f : Str → Option Int} : totC (mkC ks f) = (ks.map fun k => (f k).getD 0).sum := by
  induction ks with
  | nil => rfl
  | cons k ks ih =>
    unfold mkC totC at ih ⊢
    rw [List.filterMap_cons, List.map_cons, List.sum_cons, ← ih]
    cases f k with
    | none => simp
    | some c => simp
theorem sum_add (f g : Str → Int) : ∀ L : List Str, (L.map fun x => f x + g x).sum = (L.map f).sum + (L.map g).sum
  | [] => rfl
  | x :: L => by rw [List.map_cons, List.map_cons, List.map_cons, List.sum_cons, List.sum_cons, List.sum_cons, sum_add f g L]; omega
theorem tot_upd {A B : CL} (a : (keysC A).Nodup) (b : (keysC B).Nodup) : totC (updC A B) = totC A + totC B := by
  have na := nd_allK a b
  rw [← tot_over a na fun x hx => mem_allK.mpr (.inl hx), ← tot_over b na fun x hx => mem_allK.mpr (.inr hx), ← sum_add]
  unfold updC joinC
  rw [tot_mk]
  congr 1
  refine List.map_congr_left fun k hk => ?_
  unfold val
  cases look A k <;> cases look B k <;> simp [ctS]
theorem keys_add {A B : CL} (a : Prp A) (b : Prp B) : keysC (addC A B) = allK A B := by
  refine keys_all fun k hk => ?_
  cases e1 : look A k with
  | none =>
    cases e2 : look B k with
    | none =>
      rcases mem_allK.mp hk with h | h
      · exact absurd h (look_none.mp e1)
      · exact absurd h (look_none.mp e2)
    | some c => have := b.lk e2; simp [ctP, posO]; omega
  | some c =>
    have h1 := a.lk e1
    cases e2 : look B k with
    | none => simp [ctP, posO]; omega
    | some d => have := b.lk e2; simp [ctP, posO]; omega
theorem Prp.join {f : Int → Int → Int} {A B : CL} : Prp (joinC (ctP f) A B) := fun p hp => by
  unfold joinC mkC at hp
  obtain ⟨k, _, e⟩ := List.mem_filterMap.mp hp
  have pos : ∀ x : Int, (posO x).map (fun c => (k, c)) = some p → 1 ≤ p.2 := fun x e => by
    unfold posO at e
    split at e
    · cases e; show 1 ≤ x; omega
    · cases e
  have e : (ctP f (look A k) (look B k)).map (fun c => (k, c)) = some p := e
  revert e
  cases look A k <;> cases look B k <;> intro e <;> first | exact pos _ e | cases e
theorem Prp.least {A B : CL} : Prp (leastC A B) := fun p hp => by
  unfold leastC joinC mkC at hp
  obtain ⟨k, _, e⟩ := List.mem_filterMap.mp hp
  have pos : ∀ x : Int, (posO x).map (fun c => (k, c)) = some p → 1 ≤ p.2 := fun x e => by
    unfold posO at e
    split at e
    · cases e; show 1 ≤ x; omega
    · cases e
  have e : (ctL (look A k) (look B k)).map (fun c => (k, c)) = some p := e
  revert e
  cases look A k <;> intro e <;> first | exact pos _ e | cases e
theorem add_assoc {A B C : CL} (a : Prp A) (b : Prp B) (c : Prp C) : addC (addC A B) C = addC A (addC B C) := by
  have k1 : allK (addC A B) C = allK A (addC B C) := by
    unfold allK restK
    rw [keys_add a b, keys_add b c]
    unfold allK restK
    rw [List.filter_append, List.append_assoc, List.filter_filter]
    congr 2
    refine List.filter_congr fun x _ => ?_
    rw [Bool.eq_iff_iff]
    simp only [Bool.not_eq_true', decide_eq_false_iff_not, Bool.and_eq_true, List.mem_append, List.mem_filter, not_or]
    constructor
    · intro h; exact ⟨h.1, fun hb => h.2 ⟨hb, h.1⟩⟩
    · intro h; exact ⟨h.1, fun hb => h.2 hb.1⟩
  show mkC (allK (addC A B) C) _ = mkC (allK A (addC B C)) _
  rw [k1]
  refine mk_congr fun k _ => ?_
  unfold addC
  rw [look_join rfl, look_join rfl]
  cases e1 : look A k with
  | none =>
    cases e2 : look B k with
    | none =>
      cases e3 : look C k with
      | none => simp [ctP]
      | some z => have := c.lk e3; simp [ctP, posO, show 0 < z by omega]
    | some y =>
      have := b.lk e2
      cases e3 : look C k with
      | none => simp [ctP, posO, show 0 < y by omega]
      | some z => have := c.lk e3; simp [ctP, posO, show 0 < y by omega, show 0 < y + z by omega]
  | some x =>
    have := a.lk e1
    cases e2 : look B k with
    | none =>
      cases e3 : look C k with
      | none => simp [ctP, posO, show 0 < x by omega]
      | some z => have := c.lk e3; simp [ctP, posO, show 0 < x by omega, show 0 < z by omega]
    | some y =>
      have := b.lk e2
      cases e3 : look C k with
      | none => simp [ctP, posO, show 0 < y by omega, show 0 < x + y by omega]
      | some z => have := c.lk e3; simp [ctP, posO, show 0 < y + z by omega, show 0 < x + y by omega, Int.add_assoc]
theorem less_add {A B : CL} (na : (keysC A).Nodup) (a : Prp A) (b : Prp B) : lessC (addC A B) B = A := by
  have r : restK (addC A B) B = [] := by
    unfold restK
    rw [List.filter_eq_nil_iff, keys_add a b]
    intro x hx
    simp [mem_allK.mpr (.inr hx)]
  show mkC (keysC (addC A B) ++ restK (addC A B) B) _ = A
  rw [r, List.append_nil, keys_add a b]
  show mkC (keysC A ++ restK A B) _ = A
  rw [mk_append]
  have e1 : mkC (restK A B) (fun k => ctP (fun a b => a - b) (look (addC A B) k) (look B k)) = [] := mk_none.mpr fun k hk => by
    obtain ⟨h1, h2⟩ := List.mem_filter.mp hk
    have ha : look A k = none := look_none.mpr (by simpa using h2)
    unfold addC
    rw [look_join rfl, ha]
    cases e2 : look B k with
    | none => exact absurd h1 (look_none.mp e2)
    | some y => have := b.lk e2; simp [ctP, posO, show 0 < y by omega]
  rw [e1, List.append_nil]
  refine (mk_congr fun k hk => ?_).trans (mk_keys na)
  unfold addC
  rw [look_join rfl]
  cases e2 : look A k with
  | none => exact absurd hk (look_none.mp e2)
  | some x =>
    have := a.lk e2
    cases e3 : look B k with
    | none => simp [ctP, posO, show 0 < x by omega]
    | some y => have := b.lk e3; simp [ctP, posO, show 0 < x + y by omega, show x + y - y = x by omega, show 0 < x by omega]
theorem less_nil {A B : CL} : lessC A B = [] ↔ ∀ x ∈ allK A B, val A x ≤ val B x := by
  unfold lessC joinC
  rw [mk_none]
  refine forall_congr' fun x => forall_congr' fun hx => ?_
  unfold val
  cases e1 : look A x with
  | none =>
    cases e2 : look B x with
    | none =>
      rcases mem_allK.mp hx with h | h
      · exact absurd h (look_none.mp e1)
      · exact absurd h (look_none.mp e2)
    | some c => simp [ctP, posO_none]
  | some a => cases e2 : look B x <;> simp [ctP, posO_none] <;> omega
end Dt

/-! Expressions: what they are, their size, their names, what they come to. -/
namespace Dt
open PySem
inductive Way | add | less | most | least | update | subtract
def Way.nm : Way → Str
  | .add => "add"
  | .less => "less"
  | .most => "most"
  | .least => "least"
  | .update => "update"
  | .subtract => "subtract"
def Way.ct : Way → Option Int → Option Int → Option Int
  | .add => (ctP fun a b => a + b)
  | .less => (ctP fun a b => a - b)
  | .most => (ctP mx)
  | .least => ctL
  | .update => (ctS 1)
  | .subtract => (ctS (-1))
theorem Way.ct0 (w : Way) : w.ct none none = none := by cases w <;> rfl
inductive Ex | get (x : Str) | one (p : Bool) (e : Ex) | two (w : Way) (a b : Ex)
def sgn (p : Bool) : Int := if p then 1 else -1
def pmN (p : Bool) : Str := if p then "plus" else "minus"
def exD : Ex → D
  | .get x => .tup [.str "get", .str x]
  | .one p e => .tup [.str (pmN p), exD e]
  | .two w a b => .tup [.str w.nm, exD a, exD b]
def Ex.size : Ex → Nat
  | .get _ => 1
  | .one _ e => 1 + e.size
  | .two _ a b => 1 + (a.size + b.size)
theorem Ex.pos : ∀ e : Ex, 1 ≤ e.size
  | .get _ => Nat.le_refl _
  | .one _ _ => Nat.le_add_right _ _
  | .two _ _ _ => Nat.le_add_right _ _
/-- all names are so -/
def Ex.all (P : Str → Prop) : Ex → Prop
  | .get x => P x
  | .one _ e => e.all P
  | .two _ a b => a.all P ∧ b.all P
def Ex.names : Ex → List Str
  | .get x => [x]
  | .one _ e => e.names
  | .two _ a b => b.names.foldl kindS a.names
def Ex.ev (ρ : Str → CL) : Ex → CL
  | .get x => ρ x
  | .one p e => turnC (sgn p) (e.ev ρ)
  | .two w a b => joinC w.ct (a.ev ρ) (b.ev ρ)
theorem foldl_mem {l σ : List Str} {x : Str} : x ∈ l.foldl kindS σ ↔ x ∈ σ ∨ x ∈ l := by
  induction l generalizing σ with
  | nil => simp
  | cons y l ih => rw [List.foldl_cons, ih, mem_kindS, List.mem_cons, or_assoc]
theorem foldl_nd {l σ : List Str} (h : σ.Nodup) : (l.foldl kindS σ).Nodup := by
  induction l generalizing σ with
  | nil => exact h
  | cons y l ih =>
    refine ih ?_
    unfold kindS
    split
    · exact h
    · rename_i hn
      exact List.nodup_append.mpr ⟨h, by simp, fun a ha b hb e => hn (by rw [List.mem_singleton.mp hb] at e; rw [← e]; exact ha)⟩
theorem Ex.names_all {P : Str → Prop} : ∀ {e : Ex}, e.all P → ∀ x ∈ e.names, P x
  | .get _, h, x, hx => by rw [List.mem_singleton.mp hx]; exact h
  | .one _ e, h, x, hx => Ex.names_all (e := e) h x hx
  | .two _ a b, h, x, hx => (foldl_mem.mp hx).elim (Ex.names_all (e := a) h.1 x) (Ex.names_all (e := b) h.2 x)
theorem Ex.names_nd : ∀ e : Ex, e.names.Nodup
  | .get _ => by simp [Ex.names]
  | .one _ e => e.names_nd
  | .two _ a b => foldl_nd a.names_nd
theorem nd_le {l : List Str} : ∀ {m : List Str}, l.Nodup → (∀ x ∈ l, x ∈ m) → l.length ≤ m.length := by
  induction l with
  | nil => intro m _ _; exact Nat.zero_le _
  | cons x l ih =>
    intro m nd h
    obtain ⟨h1, h2⟩ := List.nodup_cons.mp nd
    have hm := h x (.head _)
    have := ih (m := m.erase x) h2 fun y hy => (List.mem_erase_of_ne fun e => h1 (by rw [← e]; exact hy)).mpr (h y (.tail _ hy))
    rw [List.length_erase_of_mem hm] at this
    have := List.length_pos_of_mem hm
    rw [List.length_cons]
    omega
/-- what holds of the keys holds behind -/
theorem Ex.ev_cv {P : Str → Prop} {Q : Str → Prop} {ρ : Str → CL} {k : Nat} (hρ : ∀ x, Q x → CV P k (ρ x)) : ∀ {e : Ex}, e.all Q → CV P (k * e.size) (e.ev ρ)
  | .get x, h => by rw [Ex.size, Nat.mul_one]; exact hρ x h
  | .one p e, h => ((Ex.ev_cv hρ (e := e) h).turn _).mono (by rw [Ex.size]; exact Nat.mul_le_mul_left _ (Nat.le_add_left _ _))
  | .two w a b, h => ((Ex.ev_cv hρ (e := a) h.1).join (Ex.ev_cv hρ (e := b) h.2) w.ct).mono (by rw [Ex.size, ← Nat.mul_add]; exact Nat.mul_le_mul_left _ (Nat.le_add_left _ _))
end Dt
namespace Lw
open Dt PySem
@[simp] theorem h_get_get : eqD (.str "get") (.str "get") = some true := by decide +kernel
@[simp] theorem h_plus_get : eqD (.str "plus") (.str "get") = some false := by decide +kernel
@[simp] theorem h_minus_get : eqD (.str "minus") (.str "get") = some false := by decide +kernel
@[simp] theorem h_add_get : eqD (.str "add") (.str "get") = some false := by decide +kernel
@[simp] theorem h_less_get : eqD (.str "less") (.str "get") = some false := by decide +kernel
@[simp] theorem h_most_get : eqD (.str "most") (.str "get") = some false := by decide +kernel
@[simp] theorem h_least_get : eqD (.str "least") (.str "get") = some false := by decide +kernel
@[simp] theorem h_update_get : eqD (.str "update") (.str "get") = some false := by decide +kernel
@[simp] theorem h_subtract_get : eqD (.str "subtract") (.str "get") = some false := by decide +kernel
theorem s_plus : gIn [.str "plus", .arg [.str "plus", .str "minus"]] = some (.bl true) := okB_eq (by decide +kernel)
theorem s_minus : gIn [.str "minus", .arg [.str "plus", .str "minus"]] = some (.bl true) := okB_eq (by decide +kernel)
theorem s_add : gIn [.str "add", .arg [.str "plus", .str "minus"]] = some (.bl false) := okB_eq (by decide +kernel)
theorem s_less : gIn [.str "less", .arg [.str "plus", .str "minus"]] = some (.bl false) := okB_eq (by decide +kernel)
theorem s_most : gIn [.str "most", .arg [.str "plus", .str "minus"]] = some (.bl false) := okB_eq (by decide +kernel)
theorem s_least : gIn [.str "least", .arg [.str "plus", .str "minus"]] = some (.bl false) := okB_eq (by decide +kernel)
theorem s_update : gIn [.str "update", .arg [.str "plus", .str "minus"]] = some (.bl false) := okB_eq (by decide +kernel)
theorem s_subtract : gIn [.str "subtract", .arg [.str "plus", .str "minus"]] = some (.bl false) := okB_eq (by decide +kernel)
theorem p_add : gIn [.str "add", .arg [.str "add", .str "less", .str "most", .str "least", .str "update", .str "subtract"]] = some (.bl true) := okB_eq (by decide +kernel)
theorem p_less : gIn [.str "less", .arg [.str "add", .str "less", .str "most", .str "least", .str "update", .str "subtract"]] = some (.bl true) := okB_eq (by decide +kernel)
theorem p_most : gIn [.str "most", .arg [.str "add", .str "less", .str "most", .str "least", .str "update", .str "subtract"]] = some (.bl true) := okB_eq (by decide +kernel)
theorem p_least : gIn [.str "least", .arg [.str "add", .str "less", .str "most", .str "least", .str "update", .str "subtract"]] = some (.bl true) := okB_eq (by decide +kernel)
theorem p_update : gIn [.str "update", .arg [.str "add", .str "less", .str "most", .str "least", .str "update", .str "subtract"]] = some (.bl true) := okB_eq (by decide +kernel)
theorem p_subtract : gIn [.str "subtract", .arg [.str "add", .str "less", .str "most", .str "least", .str "update", .str "subtract"]] = some (.bl true) := okB_eq (by decide +kernel)
theorem pm_get (p : Bool) : eqD (.str (pmN p)) (.str "get") = some false := by cases p <;> simp [pmN]
theorem pm_in (p : Bool) : gIn [.str (pmN p), .arg [.str "plus", .str "minus"]] = some (.bl true) := by cases p; exact s_minus; exact s_plus
theorem way_get (w : Way) : eqD (.str w.nm) (.str "get") = some false := by cases w <;> simp [Way.nm]
theorem way_in (w : Way) : gIn [.str w.nm, .arg [.str "plus", .str "minus"]] = some (.bl false) := by cases w; exact s_add; exact s_less; exact s_most; exact s_least; exact s_update; exact s_subtract
theorem way_pair (w : Way) : gIn [.str w.nm, .arg [.str "add", .str "less", .str "most", .str "least", .str "update", .str "subtract"]] = some (.bl true) := by cases w; exact p_add; exact p_less; exact p_most; exact p_least; exact p_update; exact p_subtract
theorem at2_0 {α : Type} (a b : α) : L2.atI [a, b] 0 = some a := rfl
theorem at2_1 {α : Type} (a b : α) : L2.atI [a, b] 1 = some b := rfl
theorem at3_0 {α : Type} (a b c : α) : L2.atI [a, b, c] 0 = some a := rfl
theorem at3_1 {α : Type} (a b c : α) : L2.atI [a, b, c] 1 = some b := rfl
theorem at3_2 {α : Type} (a b c : α) : L2.atI [a, b, c] 2 = some c := rfl
theorem nm_ok {x : Str} (h : NmOk x) : m_is_name [.str x] = .ok (.bl true) [] := by
  rw [name_ok ((ok_str (m := 8) (n := 0)).mpr h.1) (by decide), h.2]
theorem rest_one (a b : D) : sliceD (.tup [a, b]) (some 1) none = some (.tup [b]) := rfl
theorem rest_two (a b c : D) : sliceD (.tup [a, b, c]) (some 1) none = some (.tup [b, c]) := rfl
theorem l_2_1 : (2 : Nat) ≤ sizeLine := line_pos (by decide)
theorem node_get {self : List D → FR} {x : Str} {d : Int} (hd : d ≤ 12) (hx : NmOk x) : runP 3 2 (b_is_node self) [.tup [.str "get", .str x], .int d] = .ok (.bl true) [] := by
  have h12 : ¬ 12 < d := by omega
  unfold runP b_is_node
  simp [gGt, gLt, lexI, h12, isT, isTn, tyN, gLen, gIdx, idxD, at2_0, at2_1, gEq, D.truth, nm_ok hx]
theorem node_one {self : List D → FR} {p : Bool} {z : D} {d : Int} (hd : d ≤ 12) (h : self [z, .int (d + 1)] = .ok (.bl true) []) : runP 3 2 (b_is_node self) [.tup [.str (pmN p), z], .int d] = .ok (.bl true) [] := by
  have h12 : ¬ 12 < d := by omega
  unfold runP b_is_node
  simp [gGt, gLt, lexI, h12, isT, isTn, tyN, gLen, gIdx, idxD, at2_0, at2_1, gEq, D.truth, pm_get, pm_in, gAdd, h]
theorem node_comp {self : List D → FR} {w : Way} {y z : D} {d : Int} (h1 : self [y, .int (d + 1)] = .ok (.bl true) []) (h2 : self [z, .int (d + 1)] = .ok (.bl true) []) :
    c0_is_node self [.fro (.tup [.str w.nm, y, z]), .fro (.int d), .no] = .ok (.lst [.bl true, .bl true]) [.fro (.tup [.str w.nm, y, z]), .fro (.int d), .no] := by
  unfold c0_is_node sComp
  simp [rest_two, itemsD, plainAt, l_2_1, wipeE, compGo, gAdd, h1, h2, backE]
theorem node_two {self : List D → FR} {w : Way} {y z : D} {d : Int} (hd : d ≤ 12) (h1 : self [y, .int (d + 1)] = .ok (.bl true) []) (h2 : self [z, .int (d + 1)] = .ok (.bl true) []) : runP 3 2 (b_is_node self) [.tup [.str w.nm, y, z], .int d] = .ok (.bl true) [] := by
  have h12 : ¬ 12 < d := by omega
  unfold runP b_is_node
  simp [gGt, gLt, lexI, h12, isT, isTn, tyN, gLen, gIdx, idxD, at3_0, gEq, D.truth, way_get, way_in, way_pair, node_comp h1 h2, gAll]
theorem node_ok : ∀ (e : Ex) (f d : Nat), e.size ≤ f → d + e.size ≤ 13 → e.all NmOk → m_is_node f [exD e, .int d] = .ok (.bl true) []
  | e, 0, d, hf, _, _ => by have := e.pos; omega
  | .get x, f + 1, d, hf, hd, h => node_get (by rw [Ex.size] at hd; omega) h
  | .one p e, f + 1, d, hf, hd, h => by
    rw [Ex.size] at hf hd
    exact node_one (by have := e.pos; omega) (node_ok e f (d + 1) (by omega) (by omega) h)
  | .two w a b, f + 1, d, hf, hd, h => by
    rw [Ex.size] at hf hd
    have pa := a.pos
    have pb := b.pos
    exact node_two (by omega) (node_ok a f (d + 1) (by omega) (by omega) h.1) (node_ok b f (d + 1) (by omega) (by omega) h.2)
theorem size_one {self : List D → FR} {p : Bool} {z : D} {n : Nat} (h : self [z] = .ok (.int n) []) : runP 2 1 (b_size_of self) [.tup [.str (pmN p), z]] = .ok (.int ((1 + n : Nat) : Int)) [] := by
  have c : c0_size_of self [.fro (.tup [.str (pmN p), z]), .no] = .ok (.lst [.int n]) [.fro (.tup [.str (pmN p), z]), .no] := by
    unfold c0_size_of sComp
    simp [rest_one, itemsD, plainAt, line1, wipeE, compGo, h, backE]
  unfold runP b_size_of
  simp [gIdx, idxD, at2_0, gEq, pm_get, c, gSum, intsOf, gAdd]
theorem size_two {self : List D → FR} {w : Way} {y z : D} {n m : Nat} (h1 : self [y] = .ok (.int n) []) (h2 : self [z] = .ok (.int m) []) : runP 2 1 (b_size_of self) [.tup [.str w.nm, y, z]] = .ok (.int ((1 + (n + m) : Nat) : Int)) [] := by
  have c : c0_size_of self [.fro (.tup [.str w.nm, y, z]), .no] = .ok (.lst [.int n, .int m]) [.fro (.tup [.str w.nm, y, z]), .no] := by
    unfold c0_size_of sComp
    simp [rest_two, itemsD, plainAt, l_2_1, wipeE, compGo, h1, h2, backE]
  unfold runP b_size_of
  simp [gIdx, idxD, at3_0, gEq, way_get, c, gSum, intsOf, gAdd]
theorem size_ok : ∀ (e : Ex) (f : Nat), e.size ≤ f → m_size_of f [exD e] = .ok (.int e.size) []
  | e, 0, hf => by have := e.pos; omega
  | .get x, f + 1, hf => by
    show runP 2 1 (b_size_of (m_size_of f)) [.tup [.str "get", .str x]] = _
    unfold runP b_size_of
    simp [gIdx, idxD, at2_0, gEq, Ex.size]
  | .one p e, f + 1, hf => by rw [Ex.size] at hf; exact size_one (size_ok e f (by omega))
  | .two w a b, f + 1, hf => by
    rw [Ex.size] at hf
    exact size_two (size_ok a f (by omega)) (size_ok b f (by omega))
/-- names as a dict -/
def nmD (l : List Str) : D := .dct (l.map Sum.inr) (l.map fun _ => .bl true)
theorem put_nm (σ : List Str) (x : Str) : dPut (σ.map Sum.inr) (σ.map fun _ => D.bl true) (Sum.inr x) (.bl true) = ((kindS σ x).map Sum.inr, (kindS σ x).map fun _ => D.bl true) := by
  refine Prod.ext (dPut_kind σ _ x _) ?_
  unfold dPut kindS
  have e : ((σ.map (Sum.inr (α := Int))).any fun k' => decide (k' = Sum.inr x)) = decide (x ∈ σ) := by
    rw [Bool.eq_iff_iff, List.any_eq_true, decide_eq_true_iff]
    constructor
    · rintro ⟨k, hk, e⟩
      obtain ⟨y, hy, rfl⟩ := List.mem_map.mp hk
      have e := of_decide_eq_true e
      cases e
      exact hy
    · exact fun h => ⟨_, List.mem_map.mpr ⟨x, h, rfl⟩, by simp⟩
  rw [e]
  by_cases h : x ∈ σ
  · rw [if_pos (by simpa using h), if_pos h]
    show List.zipWith _ (σ.map Sum.inr) (σ.map fun _ => D.bl true) = _
    clear e h
    induction σ with
    | nil => rfl
    | cons y σ ih =>
      rw [List.map_cons, List.map_cons, List.zipWith_cons_cons, ih]
      simp
  · rw [if_neg (by simpa using h), if_neg h]
    simp
theorem put_all (l : List Str) : ∀ σ : List Str, putAll ((l.map Sum.inr).zip (l.map fun _ => D.bl true)) (σ.map Sum.inr, σ.map fun _ => D.bl true) = ((l.foldl kindS σ).map Sum.inr, (l.foldl kindS σ).map fun _ => D.bl true) := by
  induction l with
  | nil => intro σ; rfl
  | cons x l ih =>
    intro σ
    show putAll ((l.map Sum.inr).zip (l.map fun _ => D.bl true)) (dPut (σ.map Sum.inr) (σ.map fun _ => D.bl true) (Sum.inr x) (.bl true)) = _
    rw [put_nm, ih]
    rfl
theorem names_turn {self : List D → FR} {σ l : List Str} {c0 : Cell} {z : D} (h : self [z] = .ok (nmD l) []) (hl : σ.length + l.length ≤ 1000) : t0_names_in self [c0, .own (nmD σ), .fro z] = .ok .nx [c0, .own (nmD (l.foldl kindS σ)), .fro z] := by
  have hs : σ.length + l.length ≤ sizeLine := line_pos (by omega)
  have p := put_all l σ
  unfold t0_names_in
  unfold nmD at h ⊢
  simp [h, hs, p]
theorem names_one {self : List D → FR} {p : Bool} {z : D} {l : List Str} (h : self [z] = .ok (nmD l) []) (hl : l.length ≤ 900) (nd : l.Nodup) : runP 3 1 (b_names_in self) [.tup [.str (pmN p), z]] = .ok (nmD l) [] := by
  have t := names_turn (self := self) (σ := []) (c0 := .fro (.tup [.str (pmN p), z])) h (by simp; omega)
  have e : l.foldl kindS [] = l := kinds_nd nd
  rw [e] at t
  have t : t0_names_in self [.fro (.tup [.str (pmN p), z]), .own (.dct [] []), .fro z] = .ok .nx [.fro (.tup [.str (pmN p), z]), .own (nmD l), .fro z] := t
  unfold runP b_names_in l0_names_in sFor
  simp [gIdx, idxD, at2_0, gEq, pm_get, rest_one, itemsD, forGo, t]
theorem names_two {self : List D → FR} {w : Way} {y z : D} {l m : List Str} (h1 : self [y] = .ok (nmD l) []) (h2 : self [z] = .ok (nmD m) []) (hl : l.length ≤ 400) (hm : m.length ≤ 400) (nd : l.Nodup) : runP 3 1 (b_names_in self) [.tup [.str w.nm, y, z]] = .ok (nmD (m.foldl kindS l)) [] := by
  have t := names_turn (self := self) (σ := []) (c0 := .fro (.tup [.str w.nm, y, z])) h1 (by simp; omega)
  have e : l.foldl kindS [] = l := kinds_nd nd
  rw [e] at t
  have t : t0_names_in self [.fro (.tup [.str w.nm, y, z]), .own (.dct [] []), .fro y] = .ok .nx [.fro (.tup [.str w.nm, y, z]), .own (nmD l), .fro y] := t
  have u := names_turn (self := self) (σ := l) (c0 := .fro (.tup [.str w.nm, y, z])) h2 (by omega)
  unfold runP b_names_in l0_names_in sFor
  simp [gIdx, idxD, at3_0, gEq, way_get, rest_two, itemsD, forGo, t, u]
theorem Ex.names_len (e : Ex) : e.names.length ≤ e.size := by
  induction e with
  | get x => exact Nat.le_refl _
  | one p e ih => rw [Ex.size]; show e.names.length ≤ _; omega
  | two w a b iha ihb =>
    have go : ∀ (l σ : List Str), (l.foldl kindS σ).length ≤ σ.length + l.length := fun l => by
      induction l with
      | nil => intro σ; exact Nat.le_refl _
      | cons x l ih =>
        intro σ
        have := ih (kindS σ x)
        have : (kindS σ x).length ≤ σ.length + 1 := by rw [len_kindS]; split <;> omega
        rw [List.foldl_cons, List.length_cons]
        omega
    have := go b.names a.names
    rw [Ex.size]
    show (b.names.foldl kindS a.names).length ≤ _
    omega
theorem names_ok : ∀ (e : Ex) (f : Nat), e.size ≤ f → e.size ≤ 100 → m_names_in f [exD e] = .ok (nmD e.names) []
  | e, 0, hf, _ => by have := e.pos; omega
  | .get x, f + 1, hf, _ => by
    show runP 3 1 (b_names_in (m_names_in f)) [.tup [.str "get", .str x]] = _
    unfold runP b_names_in
    simp [gIdx, idxD, at2_0, at2_1, gEq, nmD, Ex.names, keyOf_str, putAll, dPut]
  | .one p e, f + 1, hf, hs => by
    rw [Ex.size] at hf hs
    exact names_one (l := e.names) (names_ok e f (by omega) (by omega)) (by have := Ex.names_len e; omega) e.names_nd
  | .two w a b, f + 1, hf, hs => by
    rw [Ex.size] at hf hs
    exact names_two (l := a.names) (m := b.names) (names_ok a f (by omega) (by omega)) (names_ok b f (by omega) (by omega)) (by have := Ex.names_len a; omega) (by have := Ex.names_len b; omega) a.names_nd
theorem expr_ok {e : Ex} (hs : e.size ≤ 12) (h : e.all NmOk) (h3 : e.names.length ≤ 3) : m_is_expression [exD e] = .ok (.bl true) [] := by
  have n := node_ok e 40 1 (by omega) (by omega) h
  have z := size_ok e 40 (by omega)
  have m := names_ok e 40 (by omega) (by omega)
  have n : m_is_node 40 [exD e, .int 1] = .ok (.bl true) [] := n
  have l : gLen [nmD e.names] = some (.int e.names.length) := by show some (D.int ((e.names.map Sum.inr).length : Nat)) = _; rw [List.length_map]
  have hs' : (e.size : Int) ≤ 12 := by omega
  have h3' : (e.names.length : Int) ≤ 3 := by omega
  show runP 1 1 b_is_expression _ = _
  unfold runP b_is_expression
  simp [n, z, m, l, gLe, lexI, hs', h3', D.truth]
end Lw

/-! The law's drawn expressions, over any names. -/
namespace Dt
open PySem
/-- names as a list -/
def nmL (xs : List Str) : D := .lst (xs.map D.str)
end Dt
namespace Lw
open Dt PySem
theorem of_nm {W : List Str} (hW : W ≠ []) (lW : W.length ≤ 1000) {t : D} (h : TapeOk t) : ∃ x t', m_L_of [t, nmL W] = .ok (.str x) [t'] ∧ TapeOk t' ∧ x ∈ W := by
  obtain ⟨k, t', hk, e, h'⟩ := of_ok (ds := W.map D.str) h (by rw [List.length_map]; exact List.length_pos_iff.mpr hW) (by rw [List.length_map]; omega)
  have hk' : k < W.length := by simpa using hk
  rw [List.getElem_map] at e
  exact ⟨W[k], t', e, h', List.getElem_mem hk'⟩
theorem of_pm {t : D} (h : TapeOk t) : ∃ p t', m_L_of [t, .lst [.str "plus", .str "minus"]] = .ok (.str (pmN p)) [t'] ∧ TapeOk t' := by
  obtain ⟨k, t', hk, e, h'⟩ := of_ok (ds := [.str "plus", .str "minus"]) h (by simp) (by simp)
  obtain ⟨p, ex⟩ : ∃ p, ([.str "plus", .str "minus"] : List D)[k] = .str (pmN p) := by
    have hk' : k < 2 := by simpa using hk
    match k, hk' with
    | 0, _ => exact ⟨true, rfl⟩
    | 1, _ => exact ⟨false, rfl⟩
  rw [ex] at e
  exact ⟨p, t', e, h'⟩
def waysL : D := .lst [.str "add", .str "less", .str "most", .str "least", .str "update", .str "subtract"]
theorem ways_L : m_L_ways [] = .ok waysL [] := by
  show runP 0 0 b_L_ways _ = _
  unfold runP b_L_ways
  simp [line6, waysL]
theorem of_way {t : D} (h : TapeOk t) : ∃ w : Way, ∃ t', m_L_of [t, waysL] = .ok (.str w.nm) [t'] ∧ TapeOk t' := by
  obtain ⟨k, t', hk, e, h'⟩ := of_ok (ds := [.str "add", .str "less", .str "most", .str "least", .str "update", .str "subtract"]) h (by simp) (by simp)
  obtain ⟨w, ex⟩ : ∃ w : Way, ([.str "add", .str "less", .str "most", .str "least", .str "update", .str "subtract"] : List D)[k] = .str w.nm := by
    have hk' : k < 6 := by simpa using hk
    match k, hk' with
    | 0, _ => exact ⟨.add, rfl⟩
    | 1, _ => exact ⟨.less, rfl⟩
    | 2, _ => exact ⟨.most, rfl⟩
    | 3, _ => exact ⟨.least, rfl⟩
    | 4, _ => exact ⟨.update, rfl⟩
    | 5, _ => exact ⟨.subtract, rfl⟩
  rw [ex] at e
  exact ⟨w, t', e, h'⟩
def SumOk (W : List Str) (self : List D → FR) (n : Nat) : Prop := ∀ (m : Nat) {t : D}, m < n → TapeOk t → ∃ e t', self [t, (nmL W), .int m] = .ok (exD e) [t'] ∧ TapeOk t' ∧ 1 ≤ e.size ∧ e.size ≤ max 1 m ∧ e.all (· ∈ W)
theorem sum_step {W : List Str} (hW : W ≠ []) (lW : W.length ≤ 1000) {self : List D → FR} {n : Nat} (hs : SumOk W self n) {t : D} (h : TapeOk t) (hn : n ≤ 100) : ∃ e t', runI 5 3 (b_L_sum self) [t, (nmL W), .int n] = .ok (exD e) [t'] ∧ TapeOk t' ∧ 1 ≤ e.size ∧ e.size ≤ max 1 n ∧ e.all (· ∈ W) := by
  by_cases h2 : n < 2
  · obtain ⟨x, t', e, h', hx⟩ := of_nm hW lW h
    refine ⟨.get x, t', ?_, h', Nat.le_refl _, Nat.le_max_left _ _, hx⟩
    have h2' : (n : Int) < 2 := by omega
    unfold runI b_L_sum
    simp [gLt, lexI, h2', e, line2, lastIo, exD]
  have h2' : ¬ (n : Int) < 2 := by omega
  obtain ⟨v, t1, e1, h1, v0, v1⟩ := draw_lit 6 h
  by_cases hv : v = 0
  · subst hv
    obtain ⟨x, t', e, h', hx⟩ := of_nm hW lW h1
    refine ⟨.get x, t', ?_, h', Nat.le_refl _, Nat.le_max_left _ _, hx⟩
    unfold runI b_L_sum
    simp [gLt, lexI, h2', e1, gEq, e, line2, lastIo, exD]
  have hv' : (v == 0) = false := by simpa using hv
  have single : ∀ {t2 : D}, TapeOk t2 → ∃ p e t', ∃ t3, m_L_of [t2, .lst [.str "plus", .str "minus"]] = .ok (.str (pmN p)) [t3] ∧ self [t3, (nmL W), .int ((n : Int) - 1)] = .ok (exD e) [t'] ∧ TapeOk t' ∧ 1 ≤ e.size ∧ e.size + 1 ≤ n ∧ e.all (· ∈ W) := fun h2 => by
    obtain ⟨p, t3, e3, h3⟩ := of_pm h2
    obtain ⟨e, t', e4, h4, z1, z2, al⟩ := hs (n - 1) (by omega) h3
    have : ((n - 1 : Nat) : Int) = (n : Int) - 1 := by omega
    rw [this] at e4
    exact ⟨p, e, t', t3, e3, e4, h4, z1, by omega, al⟩
  by_cases h3 : n < 3
  · obtain ⟨p, e, t', t3, e3, e4, h4, z1, z2, al⟩ := single h1
    refine ⟨.one p e, t', ?_, h4, Nat.le_add_right _ _, by rw [Ex.size]; omega, al⟩
    have h3' : (n : Int) < 3 := by omega
    unfold runI b_L_sum
    simp [gLt, lexI, h2', h3', e1, gEq, hv', e3, gSub, gI, e4, line2, lastIo, exD]
  have h3' : ¬ (n : Int) < 3 := by omega
  obtain ⟨u, t2, e2, g2, u0, u1⟩ := draw_lit 5 h1
  by_cases hu : u = 0
  · subst hu
    obtain ⟨p, e, t', t3, e3, e4, h4, z1, z2, al⟩ := single g2
    refine ⟨.one p e, t', ?_, h4, Nat.le_add_right _ _, by rw [Ex.size]; omega, al⟩
    unfold runI b_L_sum
    simp [gLt, lexI, h2', h3', e1, gEq, hv', e2, e3, gSub, gI, e4, line2, lastIo, exD]
  have hu' : (u == 0) = false := by simpa using hu
  obtain ⟨k, t3, e3, g3, hk⟩ := draw_len (m := n - 2) g2 (by omega) (by omega)
  have e3 : m_L_draw [t2, .int ((n : Int) - 2)] = .ok (.int k) [t3] := by rw [← e3]; congr 3; congr 1; omega
  obtain ⟨a, t4, e4, g4, a1, a2, aa⟩ := hs (1 + k) (by omega) g3
  have e4 : self [t3, (nmL W), .int (1 + (k : Int))] = .ok (exD a) [t4] := by rw [← e4]; congr 3
  obtain ⟨w, t5, e5, g5⟩ := of_way g4
  obtain ⟨b, t6, e6, g6, b1, b2, ba⟩ := hs (n - 1 - (1 + k)) (by omega) g5
  have e6 : self [t5, (nmL W), .int ((n : Int) - 1 - (1 + (k : Int)))] = .ok (exD b) [t6] := by rw [← e6]; congr 3; congr 2; omega
  refine ⟨.two w a b, t6, ?_, g6, Nat.le_add_right _ _, by rw [Ex.size]; omega, aa, ba⟩
  have l3 : (3 : Nat) ≤ sizeLine := line_pos (by decide)
  unfold runI b_L_sum
  simp [gLt, lexI, h2', h3', e1, gEq, hv', e2, hu', e3, gAdd, gSub, gI, e4, ways_L, e5, e6, l3, lastIo, exD]
theorem sum_ok {W : List Str} (hW : W ≠ []) (lW : W.length ≤ 1000) : ∀ (f n : Nat), n < f → n ≤ 100 → ∀ {t : D}, TapeOk t → ∃ e t', m_L_sum f [t, (nmL W), .int n] = .ok (exD e) [t'] ∧ TapeOk t' ∧ 1 ≤ e.size ∧ e.size ≤ max 1 n ∧ e.all (· ∈ W)
  | 0, n, hf, _, _, _ => absurd hf (Nat.not_lt_zero _)
  | f + 1, n, hf, hn, t, h => sum_step hW lW (fun m t hm ht => sum_ok hW lW f m (by omega) (by omega) ht) h hn
end Lw

/-! is_node at any value. -/
namespace Lw
open Dt PySem
theorem eq_str {m n : Nat} {a : Str} (h : Ok m n (.str a)) {b : Str} (hb : Ok 100 0 (.str b)) : eqD (.str a) (.str b) = some (a == b) := by
  have h' : Ok m 0 (.str a) := ok_str.mpr (ok_str.mp h)
  rw [eqD_ok h' hb (by omega) (by omega)]
  simp [D.eqv, D.toP, PyData.eqv]
theorem word_ok {b : Str} (h : (decide (b.length ≤ 100) && b.cps.toList.all (· < 128)) = true) : Ok 100 0 (.str b) := by
  rw [Bool.and_eq_true, decide_eq_true_eq, List.all_eq_true] at h
  exact ok_str.mpr ⟨h.1, fun c hc => of_decide_eq_true (h.2 c hc)⟩
theorem in_strs (s : Str) (ws : List Str) : gIn [.str s, .arg (ws.map .str)] = some (.bl (ws.any fun w => w == s)) := by
  have fl : (ws.map D.str).all flatD = true := by simp [flatD]
  unfold gIn inD
  simp only [fl, flatD, Bool.and_self, if_true, Option.map_some]
  rw [List.any_map]
  congr 2
def sgl (s : Str) : Bool := [Str.ofString "plus", "minus"].any fun w => w == s
def pr6 (s : Str) : Bool := [Str.ofString "add", "less", "most", "least", "update", "subtract"].any fun w => w == s
theorem in_sgl (s : Str) : gIn [.str s, .arg [.str "plus", .str "minus"]] = some (.bl (sgl s)) := in_strs s ["plus", "minus"]
theorem in_pr6 (s : Str) : gIn [.str s, .arg [.str "add", .str "less", .str "most", .str "least", .str "update", .str "subtract"]] = some (.bl (pr6 s)) := in_strs s ["add", "less", "most", "least", "update", "subtract"]
theorem eq_get {m n : Nat} {s : Str} (h : Ok m n (.str s)) : eqD (.str s) (.str "get") = some (s == Str.ofString "get") := eq_str h (word_ok (by decide +kernel))
theorem at_0 {α : Type} {x : α} {r : List α} : L2.atI (x :: r) 0 = some x := by
  unfold L2.atI L2.ixN
  simp
theorem at_1 {α : Type} {x y : α} {r : List α} : L2.atI (x :: y :: r) 1 = some y := by
  unfold L2.atI L2.ixN
  have h : (1 : Int) < ((x :: y :: r).length : Nat) := by simp; omega
  rw [if_pos (by decide), if_pos h]
  rfl
/-- the first test -/
theorem node_no {self : List D → FR} {k : Nat} {d : D} (h : 12 < k ∨ ∀ s y r, d ≠ .tup (.str s :: y :: r)) {m n : Nat} (hm : m ≤ 1000) (ok : Ok m n d) : runP 3 2 (b_is_node self) [d, .int k] = .ok (.bl false) [] := by
  unfold runP b_is_node
  by_cases hk : 12 < k
  · have hk' : (12 : Int) < k := by omega
    simp [gGt, gLt, lexI, hk', D.truth]
  · have hk' : ¬ (12 : Int) < k := by omega
    have h := h.resolve_left hk
    cases d with
    | tup ds =>
      match ds, h with
      | [], _ => simp [gGt, gLt, lexI, hk', D.truth, isT, isTn, tyN, gLen]
      | [x], _ => simp [gGt, gLt, lexI, hk', D.truth, isT, isTn, tyN, gLen]
      | x :: y :: r, h =>
        have e : L2.atI (x :: y :: r) 0 = some x := at_0
        have hl : ¬ ((r.length : Int) + 1 + 1 < 2) := by omega
        obtain ⟨n', okx⟩ : ∃ n', Ok m n' x := by
          cases n with
          | zero => exact ok.elim
          | succ n => exact ⟨n, ok.2 x (.head _)⟩
        cases x with
        | str s => exact (h s y r rfl).elim
        | _ => first | (cases n' <;> exact okx.elim) | simp [gGt, gLt, lexI, hk', D.truth, isT, isTn, tyN, gLen, gIdx, idxD, e, hl]
    | _ => first | (cases n <;> exact ok.elim) | simp [gGt, gLt, lexI, hk', D.truth, isT, isTn, tyN]
theorem rest_all {x : D} {l : List D} : sliceD (.tup (x :: l)) (some 1) none = some (.tup l) := by
  have h : HT.sIx (l.length + 1) 0 (some 1) = 1 := by unfold HT.sIx; simp; try omega
  have h2 : HT.sIx (l.length + 1) (l.length + 1) none = l.length + 1 := rfl
  unfold sliceD cutD
  simp [h, h2]
theorem node_parts {self : List D → FR} {V : D → Bool} {k : Int} {x : D} {l : List D} (hl : l.length ≤ 1000) (hs : ∀ z ∈ l, self [z, .int (k + 1)] = .ok (.bl (V z)) []) :
    c0_is_node self [.fro (.tup (x :: l)), .fro (.int k), .no] = .ok (.lst (l.map fun z => .bl (V z))) [.fro (.tup (x :: l)), .fro (.int k), .no] := by
  have e := comp_map (vs := [2]) (g := gSet 2) (t := tT1) (s := sCallP 2 self (sCons (sVar 2) (sCons (sOps gAdd (b2 (sLoc 1) (sVal (sCst (.int 1))))) sNil))) (f := fun z => .bl (V z)) (p := fun _ => true) (ρ := [.fro (.tup (x :: l)), .fro (.int k), .no]) (ds := l)
    (fun d hd => ⟨[.fro (.tup (x :: l)), .fro (.int k), .fro d], [.fro (.tup (x :: l)), .fro (.int k), .fro d], by simp, rfl, by simp [plainAt], by simp [wipeE], fun _ => ⟨[.fro (.tup (x :: l)), .fro (.int k), .fro d], by
      simp [gAdd, hs d hd], by simp [plainAt], by simp [wipeE]⟩⟩)
  have hl' : l.length ≤ sizeLine := line_pos (by omega)
  have hf : l.filter (fun _ => true) = l := List.filter_eq_self.mpr (by simp)
  rw [hf] at e
  unfold c0_is_node sComp
  simp [rest_all, itemsD, plainAt, hl', wipeE, e, backE]
theorem eq_len {r : List D} {j : Nat} : gEq [.int ((r.length : Int) + 1 + 1), .int j] = some (.bl (decide (r.length + 2 = j))) := by
  unfold gEq
  have : ((r.length : Int) + 1 + 1 == (j : Int)) = decide (r.length + 2 = j) := by
    rw [Bool.eq_iff_iff, beq_iff_eq, decide_eq_true_iff]; omega
  simp [this]
/-- what is asked of a node's parts -/
def goV (V : D → Bool) (s : Str) (y : D) (r : List D) : Bool := if s = Str.ofString "get" then r.isEmpty && isN y else if sgl s = true then r.isEmpty && V y else pr6 s && decide (r.length = 1) && (V y && r.all V)
theorem node_go {self : List D → FR} {V : D → Bool} {m n k : Nat} {s : Str} {y : D} {r : List D} (hm : m ≤ 1000) (ok : Ok m (n + 1) (.tup (.str s :: y :: r))) (hk : k ≤ 12) (hs : ∀ z, Ok m n z → self [z, .int ((k : Int) + 1)] = .ok (.bl (V z)) []) :
    runP 3 2 (b_is_node self) [.tup (.str s :: y :: r), .int k] = .ok (.bl (goV V s y r)) [] := by
  have hk' : ¬ (12 : Int) < k := by omega
  have hl : ¬ ((r.length : Int) + 1 + 1 < 2) := by omega
  have oky : Ok m n y := ok.2 y (.tail _ (.head _))
  have okr : ∀ z ∈ r, Ok m n z := fun z hz => ok.2 z (.tail _ (.tail _ hz))
  have e0 : L2.atI (D.str s :: y :: r) 0 = some (.str s) := at_0
  have e1 : L2.atI (D.str s :: y :: r) 1 = some y := at_1
  have eg : eqD (.str s) (.str "get") = some (s == Str.ofString "get") := eq_get (ok.2 (.str s) (.head _))
  have nm := name_ok oky hm
  have hy := hs y oky
  have hp := node_parts (self := self) (V := V) (k := k) (x := .str s) (l := y :: r) (by have := ok.1; simp at this ⊢; omega) (fun z hz => hs z (by rcases List.mem_cons.mp hz with rfl | hz; exact oky; exact okr z hz))
  have l2 := eq_len (r := r) (j := 2)
  have l3 := eq_len (r := r) (j := 3)
  have f3 : ∀ q : Nat, decide ((q : Int) + 1 + 1 + 1 < 2) = false := fun q => decide_eq_false (by omega)
  have f4 : ∀ q : Nat, decide ((q : Int) + 1 + 1 + 1 + 1 < 2) = false := fun q => decide_eq_false (by omega)
  have g3 : ∀ q : Nat, (((q : Int) + 1 + 1 + 1) == 2) = false := fun q => beq_eq_false_iff_ne.mpr (by omega)
  have g4 : ∀ q : Nat, (((q : Int) + 1 + 1 + 1 + 1) == 3) = false := fun q => beq_eq_false_iff_ne.mpr (by omega)
  unfold runP b_is_node goV
  by_cases hg : s = Str.ofString "get"
  · subst hg
    cases r <;> simp [gGt, gLt, lexI, hk', D.truth, isT, isTn, tyN, gLen, gIdx, idxD, e0, e1, hl, f3, f4, g3, g4, gEq, eg, nm]
  · have hg' : (s == Str.ofString "get") = false := by simpa using hg
    cases hsg : sgl s with
    | true => cases r <;> simp [gGt, gLt, lexI, hk', D.truth, isT, isTn, tyN, gLen, gIdx, idxD, e0, e1, hl, f3, f4, g3, g4, gEq, eg, hg, hg', in_sgl, hsg, gAdd, hy]
    | false =>
      cases hpr : pr6 s with
      | false => simp [gGt, gLt, lexI, hk', D.truth, isT, isTn, tyN, gLen, gIdx, idxD, e0, e1, hl, f3, f4, g3, g4, gEq, eg, hg, hg', in_sgl, hsg, in_pr6, hpr]
      | true =>
        match r with
        | [] => simp [gGt, gLt, lexI, hk', D.truth, isT, isTn, tyN, gLen, gIdx, idxD, e0, e1, hl, f3, f4, g3, g4, gEq, eg, hg, hg', in_sgl, hsg, in_pr6, hpr]
        | [z] => simp [gGt, gLt, lexI, hk', D.truth, isT, isTn, tyN, gLen, gIdx, idxD, e0, e1, hl, f3, f4, g3, g4, gEq, eg, hg, hg', in_sgl, hsg, in_pr6, hpr, hp, gAll, blsOf]
        | z :: z2 :: r => simp [gGt, gLt, lexI, hk', D.truth, isT, isTn, tyN, gLen, gIdx, idxD, e0, e1, hl, f3, f4, g3, g4, gEq, eg, hg, hg', in_sgl, hsg, in_pr6, hpr]
/-- a node: n bounds the depth of the data, k the level of this one, at most lim -/
def nodeV (lim : Nat) : Nat → Nat → D → Bool
  | 0, _, _ => false
  | n + 1, k, d => decide (k ≤ lim) && match d with
    | .tup (.str s :: y :: r) => goV (nodeV lim n (k + 1)) s y r
    | _ => false
theorem isnode_any {m : Nat} (hm : m ≤ 1000) : ∀ (n f k : Nat) {d : D}, n < f → Ok m n d → m_is_node f [d, .int k] = .ok (.bl (nodeV 12 n k d)) []
  | n, 0, k, d, hf, _ => by omega
  | 0, f + 1, k, d, hf, ok => node_no (.inr fun s y r e => by subst e; exact ok.elim) hm ok
  | n + 1, f + 1, k, d, hf, ok => by
    by_cases hk : k ≤ 12
    · by_cases hd : ∃ s y r, d = .tup (.str s :: y :: r)
      · obtain ⟨s, y, r, rfl⟩ := hd
        have e : nodeV 12 (n + 1) k (.tup (.str s :: y :: r)) = goV (nodeV 12 n (k + 1)) s y r := by rw [nodeV, decide_eq_true hk, Bool.true_and]
        rw [e]
        exact node_go hm ok hk fun z hz => isnode_any hm n f (k + 1) (by omega) hz
      · have e : nodeV 12 (n + 1) k d = false := by
          unfold nodeV
          rw [decide_eq_true hk, Bool.true_and]
          split
          · rename_i s y r; exact (hd ⟨s, y, r, rfl⟩).elim
          · rfl
        rw [e]
        exact node_no (.inr fun s y r z => hd ⟨s, y, r, z⟩) hm ok
    · have e : nodeV 12 (n + 1) k d = false := by unfold nodeV; rw [decide_eq_false hk, Bool.false_and]
      rw [e]
      exact node_no (.inl (by omega)) hm ok
end Lw

/-! The depth of an expression; names. -/
namespace Dt
open PySem
def Ex.deep : Ex → Nat
  | .get _ => 1
  | .one _ e => 1 + e.deep
  | .two _ a b => 1 + max a.deep b.deep
theorem Ex.deep_pos : ∀ e : Ex, 1 ≤ e.deep
  | .get _ => Nat.le_refl _
  | .one _ _ => Nat.le_add_right _ _
  | .two _ _ _ => Nat.le_add_right _ _
theorem Ex.deep_size : ∀ e : Ex, e.deep ≤ e.size
  | .get _ => Nat.le_refl _
  | .one _ e => by have := e.deep_size; rw [Ex.deep, Ex.size]; omega
  | .two _ a b => by have := a.deep_size; have := b.deep_size; rw [Ex.deep, Ex.size]; omega
end Dt
namespace Lw
open Dt PySem
theorem isN_nm {y : D} (h : isN y = true) : ∃ z, y = .str z ∧ NmOk z := by
  cases y with
  | str z =>
    refine ⟨z, rfl, ⟨?_, ?_⟩, h⟩
    · unfold isN at h
      rw [Bool.and_eq_true, decide_eq_true_eq] at h
      exact h.1.2
    · intro c hc
      unfold isN at h
      rw [Bool.and_eq_true, List.all_eq_true] at h
      have := h.2 c hc
      unfold low at this
      rw [Bool.and_eq_true, decide_eq_true_eq, decide_eq_true_eq] at this
      omega
  | _ => cases h
end Lw

/-! What a node is, as an expression: its depth, size; the law's check and the program's. -/
namespace Lw
open Dt PySem
theorem sgl_pm {s : Str} (h : sgl s = true) : ∃ p, s = pmN p := by
  unfold sgl at h
  simp only [List.any_cons, List.any_nil, Bool.or_false, Bool.or_eq_true, beq_iff_eq] at h
  rcases h with rfl | rfl
  · exact ⟨true, rfl⟩
  · exact ⟨false, rfl⟩
theorem pr6_way {s : Str} (h : pr6 s = true) : ∃ w : Way, s = w.nm := by
  unfold pr6 at h
  simp only [List.any_cons, List.any_nil, Bool.or_false, Bool.or_eq_true, beq_iff_eq] at h
  rcases h with rfl | rfl | rfl | rfl | rfl | rfl
  · exact ⟨.add, rfl⟩
  · exact ⟨.less, rfl⟩
  · exact ⟨.most, rfl⟩
  · exact ⟨.least, rfl⟩
  · exact ⟨.update, rfl⟩
  · exact ⟨.subtract, rfl⟩
theorem sgl_of (p : Bool) : sgl (pmN p) = true ∧ pmN p ≠ Str.ofString "get" := by cases p <;> decide +kernel
theorem pr6_of (w : Way) : pr6 w.nm = true ∧ sgl w.nm = false ∧ w.nm ≠ Str.ofString "get" := by cases w <;> decide +kernel
theorem nodeV_ex {lim : Nat} : ∀ (n k : Nat) {d : D}, nodeV lim n k d = true → ∃ e, d = exD e ∧ e.all NmOk ∧ e.deep ≤ n ∧ k + e.deep ≤ lim + 1
  | 0, k, d, h => by cases h
  | n + 1, k, d, h => by
    unfold nodeV at h
    rw [Bool.and_eq_true, decide_eq_true_eq] at h
    obtain ⟨hk, h⟩ := h
    split at h
    · rename_i s y r
      unfold goV at h
      split at h
      · rename_i hs
        subst hs
        rw [Bool.and_eq_true, List.isEmpty_iff] at h
        obtain ⟨rfl, hy⟩ := h
        obtain ⟨z, rfl, hz⟩ := isN_nm hy
        exact ⟨.get z, rfl, hz, by rw [Ex.deep]; omega, by rw [Ex.deep]; omega⟩
      · split at h
        · rename_i hs
          obtain ⟨p, rfl⟩ := sgl_pm hs
          rw [Bool.and_eq_true, List.isEmpty_iff] at h
          obtain ⟨rfl, hy⟩ := h
          obtain ⟨e, rfl, he, h1, h2⟩ := nodeV_ex n (k + 1) hy
          exact ⟨.one p e, rfl, he, by rw [Ex.deep]; omega, by rw [Ex.deep]; omega⟩
        · rw [Bool.and_eq_true, Bool.and_eq_true, Bool.and_eq_true, decide_eq_true_eq] at h
          obtain ⟨⟨hw, hr⟩, hy, hz⟩ := h
          obtain ⟨w, rfl⟩ := pr6_way hw
          match r, hr, hz with
          | [z], _, hz =>
            rw [List.all_cons, List.all_nil, Bool.and_true] at hz
            obtain ⟨a, rfl, ha, h1, h2⟩ := nodeV_ex n (k + 1) hy
            obtain ⟨b, rfl, hb, h3, h4⟩ := nodeV_ex n (k + 1) hz
            exact ⟨.two w a b, rfl, ⟨ha, hb⟩, by rw [Ex.deep]; omega, by rw [Ex.deep]; omega⟩
    · cases h
theorem nodeV_of {lim : Nat} : ∀ (n k : Nat) (e : Ex), e.all NmOk → e.deep ≤ n → k + e.deep ≤ lim + 1 → nodeV lim n k (exD e) = true
  | 0, k, e, _, h, _ => by have := e.deep_pos; omega
  | n + 1, k, .get x, ha, h, hk => by
    rw [Ex.deep] at hk
    show nodeV lim (n + 1) k (.tup [.str "get", .str x]) = true
    unfold nodeV
    rw [decide_eq_true (by omega), Bool.true_and]
    show goV _ "get" _ [] = true
    unfold goV
    rw [if_pos rfl]
    exact ha.2
  | n + 1, k, .one p e, ha, h, hk => by
    rw [Ex.deep] at h hk
    show nodeV lim (n + 1) k (.tup [.str (pmN p), exD e]) = true
    unfold nodeV
    rw [decide_eq_true (by omega), Bool.true_and]
    show goV _ (pmN p) _ [] = true
    unfold goV
    rw [if_neg (sgl_of p).2, if_pos (sgl_of p).1, nodeV_of n (k + 1) e ha (by omega) (by omega)]
    rfl
  | n + 1, k, .two w a b, ha, h, hk => by
    rw [Ex.deep] at h hk
    show nodeV lim (n + 1) k (.tup [.str w.nm, exD a, exD b]) = true
    unfold nodeV
    rw [decide_eq_true (by omega), Bool.true_and]
    show goV _ w.nm _ [exD b] = true
    unfold goV
    rw [if_neg (pr6_of w).2.2, if_neg (by rw [(pr6_of w).2.1]; decide), (pr6_of w).1, nodeV_of n (k + 1) a ha.1 (by omega) (by omega), List.all_cons, nodeV_of n (k + 1) b ha.2 (by omega) (by omega)]
    rfl
theorem size_dep : ∀ (e : Ex) (f : Nat), e.deep ≤ f → m_size_of f [exD e] = .ok (.int e.size) []
  | e, 0, hf => by have := e.deep_pos; omega
  | .get x, f + 1, hf => by
    show runP 2 1 (b_size_of (m_size_of f)) [.tup [.str "get", .str x]] = _
    unfold runP b_size_of
    simp [gIdx, idxD, at2_0, gEq, Ex.size]
  | .one p e, f + 1, hf => by rw [Ex.deep] at hf; exact size_one (size_dep e f (by omega))
  | .two w a b, f + 1, hf => by
    rw [Ex.deep] at hf
    exact size_two (size_dep a f (by omega)) (size_dep b f (by omega))
end Lw

/-! is_expression at any value. -/
namespace Lw
open Dt PySem
structure ExOk (e : Ex) : Prop where
  few : e.size ≤ 12
  nms : e.all NmOk
  three : e.names.length ≤ 3
theorem exp_no {d : D} (h : m_is_node 40 [d, .int 1] = .ok (.bl false) []) : m_is_expression [d] = .ok (.bl false) [] := by
  show runP 1 1 b_is_expression _ = _
  unfold runP b_is_expression
  simp [h, D.truth]
theorem len_nmD (xs : List Str) : gLen [nmD xs] = some (.int xs.length) := by show some (D.int ((xs.map Sum.inr).length : Nat)) = _; rw [List.length_map]
theorem len_nmL (xs : List Str) : gLen [nmL xs] = some (.int xs.length) := by show some (D.int ((xs.map D.str).length : Nat)) = _; rw [List.length_map]
def goodE (e : Ex) : Bool := decide (e.size ≤ 12) && decide (e.names.length ≤ 3)
theorem exp_yes {e : Ex} (hd : e.deep ≤ 40) (h : m_is_node 40 [exD e, .int 1] = .ok (.bl true) []) : m_is_expression [exD e] = .ok (.bl (goodE e)) [] := by
  have z := size_dep e 40 hd
  show runP 1 1 b_is_expression _ = _
  unfold runP b_is_expression goodE
  by_cases hs : e.size ≤ 12
  · have hs' : (e.size : Int) ≤ 12 := by omega
    have m := names_ok e 40 (by omega) (by omega)
    have l := len_nmD e.names
    by_cases h3 : e.names.length ≤ 3
    · have h3' : (e.names.length : Int) ≤ 3 := by omega
      simp [h, z, m, l, gLe, lexI, hs, hs', h3, h3', D.truth]
    · have h3' : ¬ (e.names.length : Int) ≤ 3 := by omega
      simp [h, z, m, l, gLe, lexI, hs, hs', h3, h3', D.truth]
  · have hs' : ¬ (e.size : Int) ≤ 12 := by omega
    simp [h, z, gLe, lexI, hs, hs', D.truth]
theorem exp_any {m n : Nat} {d : D} (hm : m ≤ 1000) (hn : n ≤ 38) (ok : Ok m n d) : ∃ b, m_is_expression [d] = .ok (.bl b) [] ∧ (b = true → ∃ e, d = exD e ∧ ExOk e) := by
  have pn := isnode_any hm n 40 1 (by omega) ok
  have pn : m_is_node 40 [d, .int 1] = .ok (.bl (nodeV 12 n 1 d)) [] := pn
  cases hp : nodeV 12 n 1 d with
  | true =>
    rw [hp] at pn
    obtain ⟨e, rfl, ha, h1, h2⟩ := nodeV_ex n 1 hp
    refine ⟨goodE e, exp_yes (by omega) pn, fun hg => ⟨e, rfl, ?_⟩⟩
    unfold goodE at hg
    rw [Bool.and_eq_true, decide_eq_true_eq, decide_eq_true_eq] at hg
    exact ⟨hg.1, ha, hg.2⟩
  | false =>
    rw [hp] at pn
    exact ⟨false, exp_no pn, fun h => by cases h⟩
end Lw

/-! Signs between a and z; a text in a list of texts; the ways. -/
namespace Lw
open Dt PySem
theorem le_a (c : Nat) (h : c < 128) : gLe [.str "a", .str ⟨#[c]⟩] = some (.bl (decide (97 ≤ c))) := okB_eq ((by decide +kernel : ∀ c < 128, okB (gLe [.str "a", .str ⟨#[c]⟩]) (decide (97 ≤ c)) = true) c h)
theorem le_z (c : Nat) (h : c < 128) : gLe [.str ⟨#[c]⟩, .str "z"] = some (.bl (decide (c ≤ 122))) := okB_eq ((by decide +kernel : ∀ c < 128, okB (gLe [.str ⟨#[c]⟩, .str "z"]) (decide (c ≤ 122)) = true) c h)
theorem in_lst (s : Str) (ws : List Str) : gIn [.str s, .lst (ws.map .str)] = some (.bl (ws.any fun w => w == s)) := by
  have fl : (ws.map D.str).all flatD = true := by simp [flatD]
  unfold gIn inD
  simp only [fl, flatD, Bool.and_self, if_true, Option.map_some]
  rw [List.any_map]
  congr 2
theorem ways_ok : m_L_ways [] = .ok (.lst [.str "add", .str "less", .str "most", .str "least", .str "update", .str "subtract"]) [] := by
  unfold m_L_ways runP b_L_ways
  simp [show (6 : Nat) ≤ sizeLine from line_pos (by decide)]
end Lw

/-! Expressions as data of bounded size. -/
namespace Dt
open PySem
def exL : Ex → List D
  | .get x => [.str "get", .str x]
  | .one p e => [.str (pmN p), exD e]
  | .two w a b => [.str w.nm, exD a, exD b]
theorem exD_tup (e : Ex) : exD e = .tup (exL e) := by cases e <;> rfl
end Dt
namespace Lw
open Dt PySem
theorem str8 {x : Str} {m n : Nat} (h : (decide (x.length ≤ 8) && x.cps.toList.all (· < 128)) = true) (hm : 8 ≤ m) : Ok m n (.str x) := by
  rw [Bool.and_eq_true, decide_eq_true_eq, List.all_eq_true] at h
  exact ok_str.mpr ⟨by omega, fun c hc => of_decide_eq_true (h.2 c hc)⟩
theorem pm8 (p : Bool) {m n : Nat} (hm : 8 ≤ m) : Ok m n (.str (pmN p)) := str8 (by cases p <;> decide +kernel) hm
theorem way8 (w : Way) {m n : Nat} (hm : 8 ≤ m) : Ok m n (.str w.nm) := str8 (by cases w <;> decide +kernel) hm
theorem get8 {m n : Nat} (hm : 8 ≤ m) : Ok m n (.str "get") := str8 (by decide +kernel) hm
theorem exD_ok {m : Nat} (hm : 8 ≤ m) : ∀ e : Ex, e.all NmOk → Ok m e.deep (exD e)
  | .get x, h => ⟨by simp; omega, fun d hd => by
    simp only [List.mem_cons, List.not_mem_nil, or_false] at hd
    rcases hd with rfl | rfl
    · exact get8 hm
    · exact ok_str.mpr ⟨Nat.le_trans h.1.1 hm, h.1.2⟩⟩
  | .one p e, h => by
    have ih := exD_ok hm e h
    rw [Ex.deep, Nat.add_comm]
    refine ⟨by simp; omega, fun d hd => ?_⟩
    simp only [List.mem_cons, List.not_mem_nil, or_false] at hd
    rcases hd with rfl | rfl
    · exact pm8 p hm
    · exact ih
  | .two w a b, h => by
    have iha := exD_ok hm a h.1
    have ihb := exD_ok hm b h.2
    rw [Ex.deep, Nat.add_comm]
    refine ⟨by simp; omega, fun d hd => ?_⟩
    simp only [List.mem_cons, List.not_mem_nil, or_false] at hd
    rcases hd with rfl | rfl | rfl
    · exact way8 w hm
    · exact iha.mono (Nat.le_refl _) (Nat.le_max_left _ _)
    · exact ihb.mono (Nat.le_refl _) (Nat.le_max_right _ _)
theorem Ex.all_imp {P Q : Str → Prop} (h : ∀ x, P x → Q x) : ∀ {e : Ex}, e.all P → e.all Q
  | .get x, p => h x p
  | .one _ e, p => Ex.all_imp h (e := e) p
  | .two _ a b, p => ⟨Ex.all_imp h (e := a) p.1, Ex.all_imp h (e := b) p.2⟩
theorem tup_ok {m n : Nat} {ds : List D} (h : ds.length ≤ m) (hd : ∀ d ∈ ds, Ok m n d) : Ok m (n + 1) (.tup ds) := ⟨h, hd⟩
theorem line3 : (3 : Nat) ≤ sizeLine := line_pos (by decide)
theorem line9 : (9 : Nat) ≤ sizeLine := line_pos (by decide)
theorem line14 : (14 : Nat) ≤ sizeLine := line_pos (by decide)
theorem gl_ex (e : Ex) : gList [exD e] = some (.lst (exL e)) := by rw [exD_tup]; rfl
end Lw

/-! Words that are unlike. -/
namespace Lw
open Dt PySem
@[simp] theorem ne_add_less : (Str.ofString "add" = Str.ofString "less") = False := eq_false (by decide +kernel)
@[simp] theorem ne_add_most : (Str.ofString "add" = Str.ofString "most") = False := eq_false (by decide +kernel)
@[simp] theorem ne_add_least : (Str.ofString "add" = Str.ofString "least") = False := eq_false (by decide +kernel)
@[simp] theorem ne_less_add : (Str.ofString "less" = Str.ofString "add") = False := eq_false (by decide +kernel)
@[simp] theorem ne_less_most : (Str.ofString "less" = Str.ofString "most") = False := eq_false (by decide +kernel)
@[simp] theorem ne_less_least : (Str.ofString "less" = Str.ofString "least") = False := eq_false (by decide +kernel)
@[simp] theorem ne_most_add : (Str.ofString "most" = Str.ofString "add") = False := eq_false (by decide +kernel)
@[simp] theorem ne_most_less : (Str.ofString "most" = Str.ofString "less") = False := eq_false (by decide +kernel)
@[simp] theorem ne_most_least : (Str.ofString "most" = Str.ofString "least") = False := eq_false (by decide +kernel)
@[simp] theorem ne_least_add : (Str.ofString "least" = Str.ofString "add") = False := eq_false (by decide +kernel)
@[simp] theorem ne_least_less : (Str.ofString "least" = Str.ofString "less") = False := eq_false (by decide +kernel)
@[simp] theorem ne_least_most : (Str.ofString "least" = Str.ofString "most") = False := eq_false (by decide +kernel)
end Lw

/-! Texts of expressions, as lists of signs; the program's and the law's text_of. -/
namespace Dt
open PySem
def NmOk' (x : Str) : Prop := x.length ≤ 8
def upsL : List Nat := [117, 112, 100, 97, 116, 101]
def sbtL : List Nat := [115, 117, 98, 116, 114, 97, 99, 116]
def sgW : Way → Nat
  | .add => 43
  | .less => 45
  | .most => 124
  | .least => 38
  | .update => 0
  | .subtract => 0
def pmC (p : Bool) : Nat := if p then 43 else 45
def tx : Ex → List Nat
  | .get x => x.cps.toList
  | .one p e => 40 :: pmC p :: (tx e ++ [41])
  | .two .update a b => upsL ++ 40 :: (tx a ++ 44 :: 32 :: (tx b ++ [41]))
  | .two .subtract a b => sbtL ++ 40 :: (tx a ++ 44 :: 32 :: (tx b ++ [41]))
  | .two w a b => 40 :: (tx a ++ 32 :: sgW w :: 32 :: (tx b ++ [41]))
theorem tx_len : ∀ e : Ex, e.all NmOk' → (tx e).length ≤ 12 * e.size
  | .get x, h => by
    have : x.cps.toList.length = x.length := Array.length_toList
    show x.cps.toList.length ≤ 12 * 1
    have h : x.length ≤ 8 := h
    omega
  | .one p e, h => by
    have := tx_len e h
    rw [tx, Ex.size]
    simp only [List.length_cons, List.length_append, List.length_nil]
    omega
  | .two w a b, h => by
    have := tx_len a h.1
    have := tx_len b h.2
    rw [Ex.size]
    cases w <;> simp only [tx, upsL, sbtL, List.length_cons, List.length_append, List.length_nil] <;> omega
end Dt
namespace Lw
open Dt PySem
theorem tx_len' {e : Ex} (h : e.all NmOk) : (tx e).length ≤ 12 * e.size := tx_len e (Ex.all_imp (fun _ (q : NmOk _) => q.1.1) h)
def asc (l : List Nat) : Prop := ∀ c ∈ l, c < 128
theorem low_nm {x : Str} (h : NmOk x) : ∀ c ∈ x.cps.toList, 97 ≤ c ∧ c ≤ 122 := fun c hc => by
  have h2 := h.2
  unfold isN at h2
  simp only [Bool.and_eq_true, List.all_eq_true] at h2
  have := h2.2 c hc
  unfold low at this
  rw [Bool.and_eq_true, decide_eq_true_eq, decide_eq_true_eq] at this
  exact this
theorem nm_ne {x : Str} (h : NmOk x) : x.cps.toList ≠ [] := fun e => by
  have h2 := h.2
  unfold isN at h2
  simp only [Bool.and_eq_true, decide_eq_true_eq] at h2
  have : x.cps.toList.length = x.length := Array.length_toList
  rw [e] at this
  simp at this
  omega
theorem asc_app {a b : List Nat} : asc (a ++ b) ↔ asc a ∧ asc b := by unfold asc; simp only [List.mem_append]; exact ⟨fun h => ⟨fun c hc => h c (.inl hc), fun c hc => h c (.inr hc)⟩, fun h c hc => hc.elim (h.1 c) (h.2 c)⟩
theorem asc_cons {c : Nat} {b : List Nat} : asc (c :: b) ↔ c < 128 ∧ asc b := List.forall_mem_cons
theorem asc_nil : asc [] := fun _ h => nomatch h
theorem sg_lt (w : Way) : sgW w < 128 := by cases w <;> decide
theorem pm_lt (p : Bool) : pmC p < 128 := by cases p <;> decide
theorem tx_asc : ∀ e : Ex, e.all NmOk → asc (tx e)
  | .get x, h => fun c hc => by have := low_nm h c hc; omega
  | .one p e, h => by
    have ih := tx_asc e h
    simp only [tx, asc_cons, asc_app]
    exact ⟨by decide, pm_lt p, ih, by decide, asc_nil⟩
  | .two w a b, h => by
    have ia := tx_asc a h.1
    have ib := tx_asc b h.2
    cases w <;> simp only [tx, upsL, sbtL, asc_cons, asc_app] <;> simp [ia, ib, sgW, asc_nil]
theorem ok_S {l : List Nat} {n : Nat} (h : l.length ≤ 1000) (ha : asc l) : Ok 1000 n (.str (SX.S l)) := ok_str.mpr ⟨by rw [SX.S_len]; exact h, ha⟩
theorem eq_SS {a b : List Nat} (h1 : a.length ≤ 1000) (h2 : asc a) (h3 : b.length ≤ 1000) (h4 : asc b) : eqD (.str (SX.S a)) (.str (SX.S b)) = some (decide (a = b)) := by
  rw [eqD_ok (ok_S (n := 0) h1 h2) (ok_S (n := 0) h3 h4) (by omega) (by omega)]
  show some (PyData.eqv (.str (SX.S a)) (.str (SX.S b))) = _
  rw [PyData.eqv, SX.S_beq_eq]
theorem add_S {a b : List Nat} (h : a.length + b.length ≤ 100000) : gAdd [.str (SX.S a), .str (SX.S b)] = some (.str (SX.S (a ++ b))) := by
  show (if (SX.S a).length + (SX.S b).length ≤ sizeLine then some (D.str (SX.S a ++ SX.S b)) else none) = _
  rw [if_pos (line_pos (by rw [SX.S_len, SX.S_len]; omega)), SX.S_cat]
theorem starts_S (a b : List Nat) : Txt.startswith (SX.S a) (SX.S b) = decide (a.take b.length = b) := by
  unfold Txt.startswith
  rw [PySem.StrLaws.subAt_eq, SX.S_len, SX.S_len]
  show (decide (0 + b.length ≤ a.length) && ((a.drop 0).take b.length == b)) = _
  rw [List.drop_zero]
  by_cases h : a.take b.length = b
  · have : b.length ≤ a.length := by have := congrArg List.length h; rw [List.length_take] at this; omega
    rw [h, decide_eq_true (by omega : 0 + b.length ≤ a.length), decide_eq_true rfl, beq_self_eq_true]
    rfl
  · rw [beq_eq_false_iff_ne.mpr h, Bool.and_false, decide_eq_false h]
theorem ends_rp (a : List Nat) : Txt.endswith (SX.S (a ++ [41])) (SX.S [41]) = true := by
  unfold Txt.endswith
  rw [PySem.StrLaws.subAt_eq, SX.S_len, SX.S_len]
  show (decide (0 + 1 ≤ (a ++ [41]).length) && (((a ++ [41]).drop ((a ++ [41]).length - 1)).take 1 == [41])) = true
  rw [List.length_append, List.length_singleton, Nat.add_sub_cancel, List.drop_left, decide_eq_true (by omega : 0 + 1 ≤ a.length + 1)]
  rfl
/-! ### slices -/
theorem sliceS (z : Str) (lo hi : Option Int) : sliceD (.str z) lo hi = if z.length ≤ sizeLine then some (.str (L2.cutS z lo hi)) else none := rfl
theorem sl_mid {p q : List Nat} {l : Nat} (h : (p ++ q).length ≤ 100000) : sliceD (.str (SX.S (p ++ q))) (some (p.length : Int)) (some ((p.length : Int) + l)) = some (.str (SX.S (q.take l))) := by
  have e1 : HT.sIx (SX.S (p ++ q)).length 0 (some (p.length : Int)) = p.length := by
    rw [HT.sIx_nat, SX.S_len, List.length_append]; omega
  have e2 : HT.sIx (SX.S (p ++ q)).length (SX.S (p ++ q)).length (some ((p.length : Int) + l)) = min (p.length + l) (p ++ q).length := by
    rw [show (p.length : Int) + l = ((p.length + l : Nat) : Int) by omega, HT.sIx_nat, SX.S_len]
  rw [sliceS, if_pos (line_pos (by rw [SX.S_len]; omega))]
  unfold L2.cutS
  rw [e1, e2]
  congr 4
  show ((p ++ q).drop p.length).take _ = _
  rw [List.drop_left, List.length_append]
  rw [List.take_eq_take_iff]
  omega
theorem sl_to {p q : List Nat} (h : (p ++ q).length ≤ 100000) : sliceD (.str (SX.S (p ++ q))) none (some (p.length : Int)) = some (.str (SX.S p)) := by
  have e2 : HT.sIx (SX.S (p ++ q)).length (SX.S (p ++ q)).length (some (p.length : Int)) = p.length := by
    rw [HT.sIx_nat, SX.S_len, List.length_append]; omega
  rw [sliceS, if_pos (line_pos (by rw [SX.S_len]; omega))]
  unfold L2.cutS
  rw [e2, HT.sIx_none]
  congr 4
  show ((p ++ q).drop 0).take (p.length - 0) = p
  rw [List.drop_zero, Nat.sub_zero, List.take_left]
theorem sl_from {p q : List Nat} {i : Int} (hi : i = p.length) (h : (p ++ q).length ≤ 100000) : sliceD (.str (SX.S (p ++ q))) (some i) none = some (.str (SX.S q)) := by
  subst hi
  have e1 : HT.sIx (SX.S (p ++ q)).length 0 (some (p.length : Int)) = p.length := by
    rw [HT.sIx_nat, SX.S_len, List.length_append]; omega
  rw [sliceS, if_pos (line_pos (by rw [SX.S_len]; omega))]
  unfold L2.cutS
  rw [e1, HT.sIx_none]
  congr 4
  show ((p ++ q).drop p.length).take ((SX.S (p ++ q)).length - p.length) = q
  rw [List.drop_left, SX.S_len, List.length_append]
  exact List.take_of_length_le (by omega)
theorem sl_in {p q : List Nat} {c : Nat} {i : Int} (hi : i = p.length) (h : (p ++ (q ++ [c])).length ≤ 100000) : sliceD (.str (SX.S (p ++ (q ++ [c])))) (some i) (some (-1)) = some (.str (SX.S q)) := by
  subst hi
  have e1 : HT.sIx (SX.S (p ++ (q ++ [c]))).length 0 (some (p.length : Int)) = p.length := by
    rw [HT.sIx_nat, SX.S_len, List.length_append]; omega
  have e2 : HT.sIx (SX.S (p ++ (q ++ [c]))).length (SX.S (p ++ (q ++ [c]))).length (some (-1)) = p.length + q.length := by
    unfold HT.sIx
    dsimp only
    rw [if_pos (by decide), SX.S_len, List.length_append, List.length_append, List.length_singleton]
    omega
  rw [sliceS, if_pos (line_pos (by rw [SX.S_len]; omega))]
  unfold L2.cutS
  rw [e1, e2]
  congr 4
  show ((p ++ (q ++ [c])).drop p.length).take (p.length + q.length - p.length) = q
  rw [List.drop_left, Nat.add_sub_cancel_left, List.take_left]
/-! ### text_of -/
@[simp] theorem l_lp : Str.ofString "(" = SX.S [40] := rfl
@[simp] theorem l_rp : Str.ofString ")" = SX.S [41] := rfl
@[simp] theorem l_lpp : Str.ofString "(+" = SX.S [40, 43] := rfl
@[simp] theorem l_lpm : Str.ofString "(-" = SX.S [40, 45] := rfl
@[simp] theorem l_cs : Str.ofString ", " = SX.S [44, 32] := rfl
@[simp] theorem l_sp : Str.ofString " " = SX.S [32] := rfl
theorem w_ups : D.str "update" = D.str (SX.S upsL) := rfl
theorem w_sbt : D.str "subtract" = D.str (SX.S sbtL) := rfl
def isCall : Way → Bool
  | .update => true
  | .subtract => true
  | _ => false
theorem in_calls (w : Way) : gIn [.str w.nm, .arg [.str "update", .str "subtract"]] = some (.bl (isCall w)) := by
  have := in_strs w.nm ["update", "subtract"]
  rw [show ([Str.ofString "update", "subtract"].any fun v : Str => v == w.nm) = isCall w from by cases w <;> decide +kernel] at this
  exact this
theorem in_callsL (w : Way) : gIn [.str w.nm, .lst [.str "update", .str "subtract"]] = some (.bl (isCall w)) := by
  have := in_lst w.nm ["update", "subtract"]
  rw [show ([Str.ofString "update", "subtract"].any fun v : Str => v == w.nm) = isCall w from by cases w <;> decide +kernel] at this
  exact this
theorem way_plus (w : Way) : eqD (.str w.nm) (.str "plus") = some false ∧ eqD (.str w.nm) (.str "minus") = some false := by cases w <;> exact ⟨by decide +kernel, by decide +kernel⟩
theorem pm_plus (p : Bool) : eqD (.str (pmN p)) (.str "plus") = some p ∧ eqD (.str (pmN p)) (.str "minus") = some !p := by cases p <;> exact ⟨by decide +kernel, by decide +kernel⟩
theorem sgs_ok {w : Way} (h : isCall w = false) : m_sign_of [.str w.nm] = .ok (.str (SX.S [sgW w])) [] := by
  show runP 1 1 b_sign_of _ = _
  unfold runP b_sign_of
  cases w <;> first | (cases h; done) | (simp [dctS, gIdx, idxD, dLook, keyOf_str, Way.nm, sgW]; rfl)
def TxS (self : List D → FR) (e : Ex) : Prop := self [exD e] = .ok (.str (SX.S (tx e))) []
theorem tx_one {self : List D → FR} {p : Bool} {e : Ex} (h : TxS self e) (hl : (tx e).length ≤ 1000) : runP 1 1 (b_text_of self) [.tup [.str (pmN p), exD e]] = .ok (.str (SX.S (tx (.one p e)))) [] := by
  have h : self [exD e] = .ok (.str (SX.S (tx e))) [] := h
  obtain ⟨p1, p2⟩ := pm_plus p
  have e1 : ∀ Z : List Nat, Z = tx e → tx (.one p e) = 40 :: pmC p :: (Z ++ [41]) := fun Z hz => by rw [hz]; rfl
  rw [e1 _ rfl]
  generalize tx e = Z at *
  unfold runP b_text_of
  cases p <;> simp (disch := (simp only [List.length_cons, List.length_append, List.length_nil]; omega)) [gIdx, idxD, at2_0, at2_1, gEq, pm_get, p1, p2, h, D.truth, add_S, pmC]
theorem tx_call {self : List D → FR} {w : Way} {wl : List Nat} (hw : isCall w = true) (hwl : D.str w.nm = .str (SX.S wl)) (lw : wl.length ≤ 10) {a b : Ex} (ha : TxS self a) (hb : TxS self b) (la : (tx a).length ≤ 1000) (lb : (tx b).length ≤ 1000) : runP 1 1 (b_text_of self) [.tup [.str w.nm, exD a, exD b]] = .ok (.str (SX.S (wl ++ [40] ++ tx a ++ [44, 32] ++ tx b ++ [41]))) [] := by
  have ha : self [exD a] = .ok (.str (SX.S (tx a))) [] := ha
  have hb : self [exD b] = .ok (.str (SX.S (tx b))) [] := hb
  obtain ⟨p1, p2⟩ := way_plus w
  have ic := in_calls w
  rw [hw] at ic
  have wg := way_get w
  have a1 : gAdd [.str w.nm, .str (SX.S [40])] = some (.str (SX.S (wl ++ [40]))) := by rw [hwl]; exact add_S (by simp; omega)
  have a2 : gAdd [.str (SX.S (wl ++ [40])), .str (SX.S (tx a))] = some (.str (SX.S (wl ++ [40] ++ tx a))) := add_S (by simp; omega)
  have a3 : gAdd [.str (SX.S (wl ++ [40] ++ tx a)), .str (SX.S [44, 32])] = some (.str (SX.S (wl ++ [40] ++ tx a ++ [44, 32]))) := add_S (by simp; omega)
  have a4 : gAdd [.str (SX.S (wl ++ [40] ++ tx a ++ [44, 32])), .str (SX.S (tx b))] = some (.str (SX.S (wl ++ [40] ++ tx a ++ [44, 32] ++ tx b))) := add_S (by simp; omega)
  have a5 : gAdd [.str (SX.S (wl ++ [40] ++ tx a ++ [44, 32] ++ tx b)), .str (SX.S [41])] = some (.str (SX.S (wl ++ [40] ++ tx a ++ [44, 32] ++ tx b ++ [41]))) := add_S (by simp; omega)
  unfold runP b_text_of
  simp [gIdx, idxD, at3_0, at3_1, at3_2, gEq, wg, p1, p2, ic, ha, hb, -List.cons_append, -List.append_assoc, a1, a2, a3, a4, a5]
theorem tx_sign {self : List D → FR} {w : Way} (hw : isCall w = false) {a b : Ex} (ha : TxS self a) (hb : TxS self b) (la : (tx a).length ≤ 1000) (lb : (tx b).length ≤ 1000) : runP 1 1 (b_text_of self) [.tup [.str w.nm, exD a, exD b]] = .ok (.str (SX.S (40 :: (tx a ++ 32 :: sgW w :: 32 :: (tx b ++ [41]))))) [] := by
  have ha : self [exD a] = .ok (.str (SX.S (tx a))) [] := ha
  have hb : self [exD b] = .ok (.str (SX.S (tx b))) [] := hb
  obtain ⟨p1, p2⟩ := way_plus w
  have ic := in_calls w
  rw [hw] at ic
  have wg := way_get w
  have sg := sgs_ok hw
  generalize tx a = A at *
  generalize tx b = B at *
  unfold runP b_text_of
  simp (disch := (simp only [List.length_cons, List.length_append, List.length_nil]; omega)) [gIdx, idxD, at3_0, at3_1, at3_2, gEq, wg, p1, p2, ic, sg, ha, hb, add_S]
theorem text_ok : ∀ (e : Ex) (f : Nat), e.deep ≤ f → e.all NmOk → e.size ≤ 40 → m_text_of f [exD e] = .ok (.str (SX.S (tx e))) []
  | e, 0, hf, _, _ => by have := e.deep_pos; omega
  | .get x, f + 1, hf, h, _ => by
    show runP 1 1 (b_text_of (m_text_of f)) [.tup [.str "get", .str x]] = _
    have e1 : SX.S (tx (.get x)) = x := SX.S_tl x
    rw [e1]
    unfold runP b_text_of
    simp [gIdx, idxD, at2_0, at2_1, gEq]
  | .one p e, f + 1, hf, h, hs => by
    rw [Ex.deep] at hf
    rw [Ex.size] at hs
    have := tx_len' (e := e) h
    exact tx_one (text_ok e f (by omega) h (by omega)) (by omega)
  | .two w a b, f + 1, hf, h, hs => by
    rw [Ex.deep] at hf
    rw [Ex.size] at hs
    have la := tx_len' (e := a) h.1
    have lb := tx_len' (e := b) h.2
    have ia := text_ok a f (by omega) h.1 (by omega)
    have ib := text_ok b f (by omega) h.2 (by omega)
    cases w with
    | update =>
      refine (tx_call (w := .update) rfl w_ups (by decide) ia ib (by omega) (by omega)).trans ?_
      simp [tx]
    | subtract =>
      refine (tx_call (w := .subtract) rfl w_sbt (by decide) ia ib (by omega) (by omega)).trans ?_
      simp [tx]
    | add => exact tx_sign (w := .add) rfl ia ib (by omega) (by omega)
    | less => exact tx_sign (w := .less) rfl ia ib (by omega) (by omega)
    | most => exact tx_sign (w := .most) rfl ia ib (by omega) (by omega)
    | least => exact tx_sign (w := .least) rfl ia ib (by omega) (by omega)
end Lw

/-! read: a text of an expression is read to it. -/
namespace Dt
open PySem
/-- where a sign stands in no brackets -/
def prt (sg : List Nat) : Nat → Int → List Nat → List Nat
  | _, _, [] => []
  | i, d, c :: r => if c = 40 then prt sg (i + 1) (d + 1) r else if c = 41 then prt sg (i + 1) (d - 1) r else if d = 0 ∧ (c :: r).take sg.length = sg then i :: prt sg (i + 1) d r else prt sg (i + 1) d r
/-- a text that keeps its brackets: nothing of it is such a place -/
def Flat (sg t : List Nat) : Prop := ∀ (i : Nat) (d : Int) (r : List Nat), 0 ≤ d → prt sg i d (t ++ r) = prt sg (i + t.length) d r
theorem Flat.nil {sg : List Nat} : Flat sg [] := fun i d r _ => rfl
theorem Flat.app {sg a b : List Nat} (ha : Flat sg a) (hb : Flat sg b) : Flat sg (a ++ b) := fun i d r hd => by
  rw [List.append_assoc, ha i d _ hd, hb _ d r hd, List.length_append, Nat.add_assoc]
/-- a sign that is no bracket and does not begin sg -/
theorem Flat.one {sg : List Nat} {c s : Nat} {S : List Nat} (e : sg = s :: S) (h1 : c ≠ 40) (h2 : c ≠ 41) (h3 : c ≠ s) : Flat sg [c] := fun i d r hd => by
  show prt sg i d (c :: r) = _
  rw [prt, if_neg h1, if_neg h2, if_neg]
  · rfl
  · rintro ⟨_, h⟩
    rw [e, List.length_cons, List.take_succ_cons] at h
    injection h with h _
    exact h3 h
/-- what stands in brackets, whatever it is that keeps its brackets above 0 -/
def Deep (sg t : List Nat) : Prop := ∀ (i : Nat) (d : Int) (r : List Nat), 1 ≤ d → prt sg i d (t ++ r) = prt sg (i + t.length) d r
theorem Flat.deep {sg t : List Nat} (h : Flat sg t) : Deep sg t := fun i d r hd => h i d r (by omega)
theorem Deep.app {sg a b : List Nat} (ha : Deep sg a) (hb : Deep sg b) : Deep sg (a ++ b) := fun i d r hd => by
  rw [List.append_assoc, ha i d _ hd, hb _ d r hd, List.length_append, Nat.add_assoc]
theorem Deep.one {sg : List Nat} {c : Nat} (h1 : c ≠ 40) (h2 : c ≠ 41) : Deep sg [c] := fun i d r hd => by
  show prt sg i d (c :: r) = _
  rw [prt, if_neg h1, if_neg h2, if_neg (by rintro ⟨h, _⟩; omega)]
  rfl
theorem Deep.brackets {sg t : List Nat} (h : Deep sg t) : Flat sg (40 :: (t ++ [41])) := fun i d r hd => by
  show prt sg i d (40 :: (t ++ [41] ++ r)) = _
  rw [prt, if_pos rfl, List.append_assoc, h _ _ _ (by omega)]
  show prt sg _ _ (41 :: r) = _
  rw [prt, if_neg (by decide), if_pos rfl]
  have e1 : d + 1 - 1 = d := by omega
  have e2 : i + 1 + t.length + 1 = i + (40 :: (t ++ [41])).length := by simp; omega
  rw [e1, e2]
end Dt
namespace Lw
open Dt PySem
theorem flat_low {sg : List Nat} {s : Nat} {S : List Nat} (e : sg = s :: S) (hs : s < 97) : ∀ {l : List Nat}, (∀ c ∈ l, 97 ≤ c ∧ c ≤ 122) → Flat sg l
  | [], _ => Flat.nil
  | c :: l, h => by
    have hc := h c (.head _)
    exact (Flat.one (c := c) e (by omega) (by omega) (by omega)).app (flat_low e hs fun d hd => h d (.tail _ hd))
theorem deep_two {sg a b m : List Nat} (ha : Flat sg a) (hm : Deep sg m) (hb : Flat sg b) : Deep sg (a ++ (m ++ b)) := ha.deep.app (hm.app hb.deep)
theorem flat_tx {sg : List Nat} {s : Nat} {S : List Nat} (e : sg = s :: S) (hs : s < 97) : ∀ ex : Ex, ex.all NmOk → Flat sg (tx ex)
  | .get x, h => flat_low e hs (low_nm h)
  | .one p ex, h => by
    have ih := flat_tx e hs ex h
    have d1 : Deep sg [pmC p] := Deep.one (by cases p <;> decide) (by cases p <;> decide)
    exact (d1.app ih.deep).brackets
  | .two w a b, h => by
    have ia := flat_tx e hs a h.1
    have ib := flat_tx e hs b h.2
    have m1 : Deep sg [32, sgW w, 32] := (Deep.one (c := 32) (by decide) (by decide)).app ((Deep.one (c := sgW w) (by cases w <;> decide) (by cases w <;> decide)).app (Deep.one (c := 32) (by decide) (by decide)))
    have m2 : Deep sg [44, 32] := (Deep.one (c := 44) (by decide) (by decide)).app (Deep.one (c := 32) (by decide) (by decide))
    have f1 := (deep_two ia m1 ib).brackets
    have f2 := (deep_two ia m2 ib).brackets
    have u1 : Flat sg upsL := flat_low e hs (by decide)
    have u2 : Flat sg sbtL := flat_low e hs (by decide)
    cases w with
    | update => have := u1.app f2; simp only [List.append_assoc] at this; exact this
    | subtract => have := u2.app f2; simp only [List.append_assoc] at this; exact this
    | _ => simp only [List.append_assoc] at f1; exact f1
/-! ### parted -/
theorem at_app {α : Type} {p r : List α} {c : α} : L2.atI (p ++ c :: r) (p.length : Int) = some c := L2.atI_nat (by simp)
theorem sgn_lp (c : Nat) (h : c < 128) : gEq [.str ⟨#[c]⟩, .str "("] = some (.bl (decide (c = 40))) := okB_eq ((by decide +kernel : ∀ c < 128, okB (gEq [.str ⟨#[c]⟩, .str "("]) (decide (c = 40)) = true) c h)
theorem sgn_rp (c : Nat) (h : c < 128) : gEq [.str ⟨#[c]⟩, .str ")"] = some (.bl (decide (c = 41))) := okB_eq ((by decide +kernel : ∀ c < 128, okB (gEq [.str ⟨#[c]⟩, .str ")"]) (decide (c = 41)) = true) c h)
theorem prt_turn {p r sg : List Nat} {c : Nat} {acc : List D} {d : Int} (hc : asc (p ++ c :: r)) (hl : (p ++ c :: r).length ≤ 1000) (hs : asc sg) (ls : sg.length ≤ 10) (la : acc.length ≤ 1000) :
    t0_parted [.fro (.str (SX.S (p ++ c :: r))), .fro (.str (SX.S sg)), .fro (.int (p.length : Nat)), .own (.lst acc), .fro (.int d)] =
      .ok .nx [.fro (.str (SX.S (p ++ c :: r))), .fro (.str (SX.S sg)), .fro (.int (p.length : Nat)), .own (.lst (if c = 40 ∨ c = 41 then acc else if d = 0 ∧ (c :: r).take sg.length = sg then acc ++ [.int (p.length : Nat)] else acc)), .fro (.int (if c = 40 then d + 1 else if c = 41 then d - 1 else d))] := by
  have c128 : c < 128 := (asc_app.mp hc).2 c (.head _)
  have s0 : (p ++ c :: r).length ≤ sizeLine := line_pos (by omega)
  have i0 : gIdx [.str (SX.S (p ++ c :: r)), .int (p.length : Nat)] = some (.str ⟨#[c]⟩) := by
    show (if (SX.S (p ++ c :: r)).length ≤ sizeLine then (L2.atI (p ++ c :: r) (p.length : Int)).map fun c => D.str ⟨#[c]⟩ else none) = _
    rw [SX.S_len, if_pos s0, at_app]
    rfl
  have e1 : gEq [.str ⟨#[c]⟩, .str (SX.S [40])] = some (.bl (decide (c = 40))) := sgn_lp c c128
  have e2 : gEq [.str ⟨#[c]⟩, .str (SX.S [41])] = some (.bl (decide (c = 41))) := sgn_rp c c128
  have sl := sl_mid (p := p) (q := c :: r) (l := sg.length) (by omega)
  have ln : gLen [.str (SX.S sg)] = some (.int (sg.length : Nat)) := by
    show (if (SX.S sg).length ≤ sizeLine then some (D.int ((SX.S sg).length : Nat)) else none) = _
    rw [SX.S_len, if_pos (line_pos (by omega))]
  have tk : ((c :: r).take sg.length).length ≤ 1000 := by rw [List.length_take]; omega
  have ta : asc ((c :: r).take sg.length) := fun x hx => (asc_app.mp hc).2 x (List.mem_of_mem_take hx)
  have e3 := eq_SS tk ta (by omega : sg.length ≤ 1000) hs
  have z : acc.length < sizeLine := small_line (by omega)
  unfold t0_parted i0_parted
  by_cases h1 : c = 40
  · subst h1
    simp [i0, e1]
  by_cases h2 : c = 41
  · subst h2
    simp [i0, e1, e2, h1]
  by_cases h3 : d = 0
  · subst h3
    by_cases h4 : (c :: r).take sg.length = sg
    · rw [decide_eq_true h4] at e3
      have e3' : gEq [.str (SX.S ((c :: r).take sg.length)), .str (SX.S sg)] = some (.bl true) := by show (eqD _ _).map _ = _; rw [e3]; rfl
      have e0 : gEq [.int 0, .int 0] = some (.bl true) := by simp [gEq]
      rw [h4] at e3' sl
      simp [i0, e1, e2, h1, h2, e0, gAdd, ln, sl, e3', mAppend, z, h4]
    · rw [decide_eq_false h4] at e3
      have e3' : gEq [.str (SX.S ((c :: r).take sg.length)), .str (SX.S sg)] = some (.bl false) := by show (eqD _ _).map _ = _; rw [e3]; rfl
      have e0 : gEq [.int 0, .int 0] = some (.bl true) := by simp [gEq]
      simp [i0, e1, e2, h1, h2, e0, gAdd, ln, sl, e3', h4]
  · have e0 : gEq [.int d, .int 0] = some (.bl false) := by simp [gEq, h3]
    simp [i0, e1, e2, h1, h2, e0, h3]
theorem prt_loop {sg : List Nat} (hs : asc sg) (ls : sg.length ≤ 10) : ∀ (r p : List Nat) (acc : List D) (d : Int) {x2 : Option D}, asc (p ++ r) → (p ++ r).length ≤ 1000 → acc.length ≤ p.length →
    ∃ d' x2', forGo (gSet 2) t0_parted ((List.range' p.length r.length).map fun i => D.int (i : Nat)) [.fro (.str (SX.S (p ++ r))), .fro (.str (SX.S sg)), pl x2, .own (.lst acc), .fro (.int d)] =
      .ok .nx [.fro (.str (SX.S (p ++ r))), .fro (.str (SX.S sg)), pl x2', .own (.lst (acc ++ (prt sg p.length d r).map fun i => D.int (i : Nat))), .fro (.int d')]
  | [], p, acc, d, x2, _, _, _ => ⟨d, x2, by simp [forGo, prt]⟩
  | c :: r, p, acc, d, x2, hc, hl, la => by
    have lp : p.length ≤ 1000 := by rw [List.length_append] at hl; omega
    have st := prt_turn (acc := acc) (d := d) hc hl hs ls (by omega)
    have e1 : p ++ c :: r = (p ++ [c]) ++ r := by simp
    have lp1 : (p ++ [c]).length = p.length + 1 := by simp
    obtain ⟨d', x2', e⟩ := prt_loop hs ls r (p ++ [c]) (if c = 40 ∨ c = 41 then acc else if d = 0 ∧ (c :: r).take sg.length = sg then acc ++ [.int (p.length : Nat)] else acc) (if c = 40 then d + 1 else if c = 41 then d - 1 else d) (x2 := some (.int (p.length : Nat))) (by rw [← e1]; exact hc) (by rw [← e1]; exact hl) (by
      rw [lp1]
      split
      · omega
      · split
        · rw [List.length_append]; simp; omega
        · omega)
    rw [lp1, ← e1] at e
    refine ⟨d', x2', ?_⟩
    rw [List.length_cons, List.range'_succ, List.map_cons]
    unfold forGo
    have g : gSet 2 (.int (p.length : Nat)) [.fro (.str (SX.S (p ++ c :: r))), .fro (.str (SX.S sg)), pl x2, .own (.lst acc), .fro (.int d)] = .ok () [.fro (.str (SX.S (p ++ c :: r))), .fro (.str (SX.S sg)), .fro (.int (p.length : Nat)), .own (.lst acc), .fro (.int d)] := by
      rw [gSet_soft (by simp)]; rfl
    rw [g, R.bind_ok, st, R.bind_ok]
    refine Eq.trans e ?_
    congr 5
    rw [prt]
    by_cases h1 : c = 40
    · simp [h1]
    · by_cases h2 : c = 41
      · simp [h2]
      · by_cases h3 : d = 0 ∧ (c :: r).take sg.length = sg
        · simp only [h1, h2, h3, or_self, if_false, if_true, and_self, List.append_assoc, List.map_cons]
          rfl
        · simp only [h1, h2, h3, or_self, if_false]
theorem parted_ok {t sg : List Nat} (ht : asc t) (lt : t.length ≤ 1000) (hs : asc sg) (ls : sg.length ≤ 10) : m_parted [.str (SX.S t), .str (SX.S sg)] = .ok (.lst ((prt sg 0 0 t).map fun i => .int (i : Nat))) [] := by
  obtain ⟨d', x2', e⟩ := prt_loop hs ls t [] [] 0 (x2 := none) ht lt (Nat.le_refl _)
  have hu : (List.range' 0 t.length).map (fun i => D.int (i : Nat)) = upto 0 t.length := by
    unfold upto
    rw [List.range_eq_range']
    refine List.map_congr_left fun i _ => ?_
    rw [Int.zero_add]
  have e : forGo (gSet 2) t0_parted (upto 0 t.length) [.fro (.str (SX.S t)), .fro (.str (SX.S sg)), .no, .own (.lst []), .fro (.int 0)] = .ok .nx [.fro (.str (SX.S t)), .fro (.str (SX.S sg)), pl x2', .own (.lst ((prt sg 0 0 t).map fun i => .int (i : Nat))), .fro (.int d')] := by
    rw [← hu]; exact e
  have ln : gLen [.str (SX.S t)] = some (.int (t.length : Nat)) := by
    show (if (SX.S t).length ≤ sizeLine then some (D.int ((SX.S t).length : Nat)) else none) = _
    rw [SX.S_len, if_pos (line_pos (by omega))]
  have hr : rng1D [.int (t.length : Nat)] = some (upto 0 t.length) := by simp [rng1D]; omega
  generalize (prt sg 0 0 t).map (fun i => D.int (i : Nat)) = Z at e ⊢
  show runP 5 2 b_parted _ = _
  unfold runP b_parted l0_parted sFor
  simp [ln, hr, e]
end Lw

/-! read, of the text of an expression. -/
namespace Lw
open Dt PySem
def sgL (c : Nat) : List Nat := [32, c, 32]
/-- where a sign of two stands between two texts -/
theorem prt_mid {a b : Ex} (ha : a.all NmOk) (hb : b.all NmOk) {c c' : Nat} (hc : c = 43 ∨ c = 45 ∨ c = 124 ∨ c = 38) (hc' : c' = 43 ∨ c' = 45 ∨ c' = 124 ∨ c' = 38) : prt (sgL c') 0 0 (tx a ++ 32 :: c :: 32 :: tx b) = if c = c' then [(tx a).length] else [] := by
  have fa := flat_tx (sg := sgL c') rfl (by decide) a ha
  have fb := flat_tx (sg := sgL c') rfl (by decide) b hb
  have fb' := fb ((tx a).length + 1 + 1 + 1) 0 [] (by decide)
  rw [List.append_nil] at fb'
  rw [fa 0 0 _ (by decide), Nat.zero_add, prt, if_neg (by decide), if_neg (by decide)]
  have c40 : c ≠ 40 ∧ c ≠ 41 ∧ c ≠ 32 := by rcases hc with rfl | rfl | rfl | rfl <;> decide
  have r1 : prt (sgL c') ((tx a).length + 1) 0 (c :: 32 :: tx b) = [] := by
    rw [prt, if_neg c40.1, if_neg c40.2.1, if_neg (by rintro ⟨_, h⟩; unfold sgL at h; injection h with h _; exact c40.2.2 h), prt, if_neg (by decide), if_neg (by decide), if_neg, fb']
    · rfl
    · rintro ⟨_, h⟩
      cases hb0 : tx b with
      | nil => rw [hb0] at h; unfold sgL at h; cases h
      | cons x l =>
        have hx : x = 40 ∨ (97 ≤ x ∧ x ≤ 122) := by
          cases b with
          | get y => exact .inr (low_nm hb x (by show x ∈ tx (.get y); rw [hb0]; exact .head _))
          | one p e => rw [tx] at hb0; injection hb0 with h _; exact .inl h.symm
          | two w u v =>
            cases w <;> simp only [tx, upsL, sbtL, List.cons_append] at hb0 <;> injection hb0 with h _ <;> subst h <;> first | exact .inl rfl | exact .inr (by decide)
        rw [hb0] at h
        unfold sgL at h
        rw [List.length_cons, List.take_succ_cons, List.length_cons, List.take_succ_cons] at h
        injection h with _ h
        injection h with h _
        rcases hc' with rfl | rfl | rfl | rfl <;> omega
  by_cases h : c = c'
  · subst h
    rw [if_pos ⟨rfl, by unfold sgL; simp⟩, if_pos rfl, r1]
  · rw [if_neg (by rintro ⟨_, q⟩; unfold sgL at q; rw [List.length_cons, List.take_succ_cons, List.length_cons, List.take_succ_cons] at q; injection q with _ q; injection q with q _; exact h q), if_neg h, r1]
/-- .. a comma and a blank -/
theorem prt_comma {a b : Ex} (ha : a.all NmOk) (hb : b.all NmOk) : prt [44, 32] 0 0 (tx a ++ 44 :: 32 :: tx b) = [(tx a).length] := by
  have fa := flat_tx (sg := [44, 32]) rfl (by decide) a ha
  have fb := flat_tx (sg := [44, 32]) rfl (by decide) b hb
  have fb' := fb ((tx a).length + 1 + 1) 0 [] (by decide)
  rw [List.append_nil] at fb'
  rw [fa 0 0 _ (by decide), Nat.zero_add, prt, if_neg (by decide), if_neg (by decide), if_pos ⟨rfl, by simp⟩, prt, if_neg (by decide), if_neg (by decide), if_neg (by rintro ⟨_, h⟩; injection h with h _; cases h), fb']
  rfl
/-- .. in a single's text none -/
theorem prt_one {e : Ex} (h : e.all NmOk) (p : Bool) {c : Nat} : prt (sgL c) 0 0 (pmC p :: tx e) = [] := by
  have fe := flat_tx (sg := sgL c) rfl (by decide) e h
  have fe' := fe 1 0 [] (by decide)
  rw [List.append_nil] at fe'
  rw [prt, if_neg (by cases p <;> decide), if_neg (by cases p <;> decide), if_neg (by rintro ⟨_, q⟩; unfold sgL at q; injection q with q _; cases p <;> cases q), fe']
  rfl
theorem not_ups {t : List Nat} (h : ∀ c ∈ t, c ≠ 40) (w : List Nat) (hw : 40 ∈ w) : t.take w.length ≠ w := fun e => by
  rw [← e] at hw
  exact h 40 (List.mem_of_mem_take hw) rfl
theorem st_false {t w : List Nat} (h : t.take w.length ≠ w) : Txt.startswith (SX.S t) (SX.S w) = false := by rw [starts_S, decide_eq_false h]
theorem st_true {w t : List Nat} : Txt.startswith (SX.S (w ++ t)) (SX.S w) = true := by rw [starts_S, List.take_left, decide_eq_true rfl]
theorem ga_ups : gAdd [.str "update", .str (SX.S [40])] = some (.str (SX.S (upsL ++ [40]))) := add_S (a := upsL) (by decide)
theorem ga_sbt : gAdd [.str "subtract", .str (SX.S [40])] = some (.str (SX.S (sbtL ++ [40]))) := add_S (a := sbtL) (by decide)
theorem it_calls : itemsD (.arg [.str "update", .str "subtract"]) = some [.str "update", .str "subtract"] := rfl
theorem calls_loop {self : List D → FR} {t : List Nat} {k : Int} {x2 : Option D} {c3 c4 c5 : Cell} (h1 : t.take (upsL ++ [40]).length ≠ upsL ++ [40]) (h2 : t.take (sbtL ++ [40]).length ≠ sbtL ++ [40]) :
    l0_read self [.fro (.str (SX.S t)), .fro (.int k), pl x2, c3, c4, c5] = .ok .nx [.fro (.str (SX.S t)), .fro (.int k), .fro (.str "subtract"), c3, c4, c5] := by
  have s1 := st_false h1
  have s2 := st_false h2
  have t1 : t0_read self [.fro (.str (SX.S t)), .fro (.int k), .fro (.str "update"), c3, c4, c5] = .ok .nx [.fro (.str (SX.S t)), .fro (.int k), .fro (.str "update"), c3, c4, c5] := by
    unfold t0_read
    simp [ga_ups, gStarts, s1, D.truth]
  have t2 : t0_read self [.fro (.str (SX.S t)), .fro (.int k), .fro (.str "subtract"), c3, c4, c5] = .ok .nx [.fro (.str (SX.S t)), .fro (.int k), .fro (.str "subtract"), c3, c4, c5] := by
    unfold t0_read
    simp [ga_sbt, gStarts, s2, D.truth]
  have g1 : gSet 2 (.str "update") [.fro (.str (SX.S t)), .fro (.int k), pl x2, c3, c4, c5] = .ok () [.fro (.str (SX.S t)), .fro (.int k), .fro (.str "update"), c3, c4, c5] := by rw [gSet_soft (by simp)]; rfl
  unfold l0_read sFor
  simp only [ev_iAny, ev_cst, R.bind_ok]
  show (forGo (gSet 2) (t0_read self) [.str "update", .str "subtract"] _) = _
  rw [forGo, g1, R.bind_ok, t1, R.bind_ok]
  simp only
  rw [forGo, show gSet 2 (.str "subtract") [.fro (.str (SX.S t)), .fro (.int k), .fro (.str "update"), c3, c4, c5] = .ok () [.fro (.str (SX.S t)), .fro (.int k), .fro (.str "subtract"), c3, c4, c5] by simp, R.bind_ok, t2, R.bind_ok]
  rfl
theorem read_get {self : List D → FR} {t : List Nat} {k : Int} (hk : k ≤ 12) (h : ∀ c ∈ t, c ≠ 40) : runP 6 2 (b_read self) [.str (SX.S t), .int k] = .ok (.tup [.str "get", .str (SX.S t)]) [] := by
  have l := calls_loop (self := self) (k := k) (x2 := none) (c3 := .no) (c4 := .no) (c5 := .no) (not_ups h _ (by decide)) (not_ups h _ (by decide))
  have l : l0_read self [.fro (.str (SX.S t)), .fro (.int k), .no, .no, .no, .no] = _ := l
  have s := st_false (not_ups h [40] (by decide))
  have hk' : ¬ (12 : Int) < k := by omega
  unfold runP b_read
  simp [gGt, lexI, hk', l, gStarts, s, D.truth, line2]
/-- two texts behind a word -/
theorem read_call {self : List D → FR} {w : Way} (hw : isCall w = true) {a b : Ex} (ha : a.all NmOk) (hb : b.all NmOk) {k : Int} (hk : k ≤ 12) (l1 : (tx a).length ≤ 450) (l2 : (tx b).length ≤ 450)
    (e1 : self [.str (SX.S (tx a)), .int (k + 1)] = .ok (exD a) []) (e2 : self [.str (SX.S (tx b)), .int (k + 1)] = .ok (exD b) []) : runP 6 2 (b_read self) [.str (SX.S (tx (.two w a b))), .int k] = .ok (exD (.two w a b)) [] := by
  have hk' : ¬ (12 : Int) < k := by omega
  have pc := prt_comma ha hb
  have aa : asc (tx a ++ 44 :: 32 :: tx b) := by
    simp only [asc_app, asc_cons]
    exact ⟨tx_asc a ha, by decide, by decide, tx_asc b hb⟩
  have pt := parted_ok (sg := [44, 32]) aa (by simp; omega) (by unfold asc; decide) (by decide)
  rw [pc] at pt
  have en := ends_rp
  have fin : ∀ (wl : List Nat) (ws : D), ws = .str (SX.S wl) → wl.length ≤ 10 → (gLen [ws] = some (.int wl.length)) → (gAdd [ws, .str (SX.S [40])] = some (.str (SX.S (wl ++ [40])))) →
      t0_read self [.fro (.str (SX.S (wl ++ 40 :: (tx a ++ 44 :: 32 :: (tx b ++ [41]))))), .fro (.int k), .fro ws, .no, .no, .no] = .ok (.rt (.tup [ws, exD a, exD b])) [.fro (.str (SX.S (wl ++ 40 :: (tx a ++ 44 :: 32 :: (tx b ++ [41]))))), .fro (.int k), .fro ws, .fro (.str (SX.S (tx a ++ 44 :: 32 :: tx b))), .no, .fro (.lst [.int (tx a).length])] := fun wl ws hws lw gl ga => by
    have t0 : wl ++ 40 :: (tx a ++ 44 :: 32 :: (tx b ++ [41])) = (wl ++ [40]) ++ ((tx a ++ 44 :: 32 :: tx b) ++ [41]) := by simp
    have s1 : Txt.startswith (SX.S (wl ++ 40 :: (tx a ++ 44 :: 32 :: (tx b ++ [41])))) (SX.S (wl ++ [40])) = true := by rw [t0]; exact st_true
    have s2 : Txt.endswith (SX.S (wl ++ 40 :: (tx a ++ 44 :: 32 :: (tx b ++ [41])))) (SX.S [41]) = true := by rw [t0, ← List.append_assoc]; exact en _
    have s3 : sliceD (.str (SX.S (wl ++ 40 :: (tx a ++ 44 :: 32 :: (tx b ++ [41]))))) (some ((wl.length : Int) + 1)) (some (-1)) = some (.str (SX.S (tx a ++ 44 :: 32 :: tx b))) := by
      rw [t0]
      exact sl_in (by simp) (by simp; omega)
    have s4 : sliceD (.str (SX.S (tx a ++ 44 :: 32 :: tx b))) none (some ((tx a).length : Int)) = some (.str (SX.S (tx a))) := sl_to (by simp; omega)
    have s5 : sliceD (.str (SX.S (tx a ++ 44 :: 32 :: tx b))) (some (((tx a).length : Int) + 2)) none = some (.str (SX.S (tx b))) := by
      have : tx a ++ 44 :: 32 :: tx b = (tx a ++ [44, 32]) ++ tx b := by simp
      rw [this]
      exact sl_from (by simp) (by simp; omega)
    have i0 : gIdx [.lst [.int (tx a).length], .int 0] = some (.int (tx a).length) := rfl
    have ln : gLen [.lst [.int (tx a).length]] = some (.int 1) := rfl
    have gn : gNeg [.int 1] = some (.int (-1)) := rfl
    have line3 : (3 : Nat) ≤ sizeLine := line_pos (by decide)
    have ad : ∀ i j : Int, gAdd [.int i, .int j] = some (.int (i + j)) := fun _ _ => rfl
    have e0 : gEq [.int 1, .int 1] = some (.bl true) := by simp [gEq]
    have pt' : m_parted [.str (SX.S (tx a ++ 44 :: 32 :: tx b)), .str (SX.S [44, 32])] = .ok (.lst [.int (tx a).length]) [] := pt
    generalize wl ++ 40 :: (tx a ++ 44 :: 32 :: (tx b ++ [41])) = Z at *
    generalize tx a ++ 44 :: 32 :: tx b = Y at *
    generalize hA : tx a = A at *
    generalize hB : tx b = B at *
    unfold t0_read u0_read
    simp [ga, gStarts, s1, gEnds, s2, D.truth, gl, ad, gn, s3, pt', ln, e0, i0, s4, s5, e1, e2, line3]
  have gu : gLen [.str "update"] = some (.int upsL.length) := by
    show (if (Str.ofString "update").length ≤ sizeLine then some (D.int ((Str.ofString "update").length : Nat)) else none) = _
    rw [if_pos (line_pos (by decide +kernel))]
    rfl
  have gs : gLen [.str "subtract"] = some (.int sbtL.length) := by
    show (if (Str.ofString "subtract").length ≤ sizeLine then some (D.int ((Str.ofString "subtract").length : Nat)) else none) = _
    rw [if_pos (line_pos (by decide +kernel))]
    rfl
  cases w with
  | update =>
    have f := fin upsL (.str "update") w_ups (by decide) gu ga_ups
    have l : l0_read self [.fro (.str (SX.S (tx (.two .update a b)))), .fro (.int k), .no, .no, .no, .no] = .ok (.rt (exD (.two .update a b))) [.fro (.str (SX.S (tx (.two .update a b)))), .fro (.int k), .fro (.str "update"), .fro (.str (SX.S (tx a ++ 44 :: 32 :: tx b))), .no, .fro (.lst [.int (tx a).length])] := by
      unfold l0_read sFor
      simp only [ev_iAny, ev_cst, R.bind_ok, it_calls, ev_ofS]
      rw [forGo, show gSet 2 (.str "update") [.fro (.str (SX.S (tx (.two .update a b)))), .fro (.int k), .no, .no, .no, .no] = .ok () [.fro (.str (SX.S (tx (.two .update a b)))), .fro (.int k), .fro (.str "update"), .no, .no, .no] by simp, R.bind_ok]
      rw [show tx (.two .update a b) = upsL ++ 40 :: (tx a ++ 44 :: 32 :: (tx b ++ [41])) from rfl, f, R.bind_ok]
      rfl
    unfold runP b_read
    simp [gGt, lexI, hk', l]
  | subtract =>
    have f := fin sbtL (.str "subtract") w_sbt (by decide) gs ga_sbt
    have n1 : (tx (.two .subtract a b)).take (upsL ++ [40]).length ≠ upsL ++ [40] := fun e => by
      rw [show tx (.two .subtract a b) = sbtL ++ 40 :: (tx a ++ 44 :: 32 :: (tx b ++ [41])) from rfl] at e
      unfold sbtL upsL at e
      injection e with e _
      cases e
    have s1 := st_false n1
    have t1 : t0_read self [.fro (.str (SX.S (tx (.two .subtract a b)))), .fro (.int k), .fro (.str "update"), .no, .no, .no] = .ok .nx [.fro (.str (SX.S (tx (.two .subtract a b)))), .fro (.int k), .fro (.str "update"), .no, .no, .no] := by
      unfold t0_read
      simp [ga_ups, gStarts, s1, D.truth]
    have l : l0_read self [.fro (.str (SX.S (tx (.two .subtract a b)))), .fro (.int k), .no, .no, .no, .no] = .ok (.rt (exD (.two .subtract a b))) [.fro (.str (SX.S (tx (.two .subtract a b)))), .fro (.int k), .fro (.str "subtract"), .fro (.str (SX.S (tx a ++ 44 :: 32 :: tx b))), .no, .fro (.lst [.int (tx a).length])] := by
      unfold l0_read sFor
      simp only [ev_iAny, ev_cst, R.bind_ok, it_calls, ev_ofS]
      rw [forGo, show gSet 2 (.str "update") [.fro (.str (SX.S (tx (.two .subtract a b)))), .fro (.int k), .no, .no, .no, .no] = .ok () [.fro (.str (SX.S (tx (.two .subtract a b)))), .fro (.int k), .fro (.str "update"), .no, .no, .no] by simp, R.bind_ok, t1, R.bind_ok]
      simp only
      rw [forGo, show gSet 2 (.str "subtract") [.fro (.str (SX.S (tx (.two .subtract a b)))), .fro (.int k), .fro (.str "update"), .no, .no, .no] = .ok () [.fro (.str (SX.S (tx (.two .subtract a b)))), .fro (.int k), .fro (.str "subtract"), .no, .no, .no] by simp, R.bind_ok]
      rw [show tx (.two .subtract a b) = sbtL ++ 40 :: (tx a ++ 44 :: 32 :: (tx b ++ [41])) from rfl, f, R.bind_ok]
      rfl
    unfold runP b_read
    simp [gGt, lexI, hk', l]
  | _ => cases hw
end Lw

/-! read, of texts in brackets; all texts of expressions. -/
namespace Lw
open Dt PySem
def GS : SG := gTup' 2 (gC (gSet 2) (gC (gSet 4) gN))
def prS (p : Str × Nat) : D := .arg [.str p.1, .str (SX.S [p.2])]
def sgP : List (Str × Nat) := [("add", 43), ("less", 45), ("most", 124), ("least", 38)]
theorem it_signs : itemsD (.arg (([("add", "+"), ("less", "-"), ("most", "|"), ("least", "&")] : List (Str × Str)).map pairA)) = some (sgP.map prS) := rfl
theorem ga_sg (c : Nat) : gAdd [.str (SX.S [32]), .str (SX.S [c])] = some (.str (SX.S [32, c])) ∧ gAdd [.str (SX.S [32, c]), .str (SX.S [32])] = some (.str (SX.S (sgL c))) := ⟨add_S (a := [32]) (b := [c]) (by simp), add_S (a := [32, c]) (b := [32]) (by simp)⟩
section
variable {self : List D → FR} {I : List Nat} {t k : Cell}
theorem t1_no {p : Str × Nat} {x5 : Option D} (h : m_parted [.str (SX.S I), .str (SX.S (sgL p.2))] = .ok (.lst []) []) : t1_read self [t, k, .fro (.str p.1), .fro (.str (SX.S I)), .fro (.str (SX.S [p.2])), pl x5] = .ok .nx [t, k, .fro (.str p.1), .fro (.str (SX.S I)), .fro (.str (SX.S [p.2])), .fro (.lst [])] := by
  obtain ⟨g1, g2⟩ := ga_sg p.2
  have e0 : gEq [.int 0, .int 1] = some (.bl false) := by simp [gEq]
  have ln : gLen [.lst []] = some (.int 0) := rfl
  unfold t1_read
  simp [-ev_gSet, gSet_soft, g1, g2, h, ln, e0]
theorem l1_none : ∀ (L : List (Str × Nat)) {x2 x4 x5 : Option D}, (∀ p ∈ L, m_parted [.str (SX.S I), .str (SX.S (sgL p.2))] = .ok (.lst []) []) → ∃ x2' x4' x5', forGo GS (t1_read self) (L.map prS) [t, k, pl x2, .fro (.str (SX.S I)), pl x4, pl x5] = .ok .nx [t, k, pl x2', .fro (.str (SX.S I)), pl x4', pl x5']
  | [], x2, x4, x5, _ => ⟨x2, x4, x5, rfl⟩
  | p :: L, x2, x4, x5, h => by
    obtain ⟨a, b, c, e⟩ := l1_none L (x2 := some (.str p.1)) (x4 := some (.str (SX.S [p.2]))) (x5 := some (.lst [])) fun q hq => h q (.tail _ hq)
    refine ⟨a, b, c, ?_⟩
    have g : GS (prS p) [t, k, pl x2, .fro (.str (SX.S I)), pl x4, pl x5] = .ok () [t, k, .fro (.str p.1), .fro (.str (SX.S I)), .fro (.str (SX.S [p.2])), pl x5] := by
      unfold GS prS
      simp [-ev_gSet, gSet_soft]
    rw [List.map_cons, forGo, g, R.bind_ok, t1_no (h p (.head _)), R.bind_ok]
    exact e
theorem l1_hit {w0 : Str} {c : Nat} {L2 : List (Str × Nat)} {Z : D} (hit : ∀ x5, ∃ ρ', t1_read self [t, k, .fro (.str w0), .fro (.str (SX.S I)), .fro (.str (SX.S [c])), pl x5] = .ok (.rt Z) ρ') : ∀ (L : List (Str × Nat)) {x2 x4 x5 : Option D}, (∀ p ∈ L, m_parted [.str (SX.S I), .str (SX.S (sgL p.2))] = .ok (.lst []) []) → ∃ ρ', forGo GS (t1_read self) ((L ++ (w0, c) :: L2).map prS) [t, k, pl x2, .fro (.str (SX.S I)), pl x4, pl x5] = .ok (.rt Z) ρ'
  | [], x2, x4, x5, _ => by
    obtain ⟨ρ', e⟩ := hit x5
    refine ⟨ρ', ?_⟩
    have g : GS (prS (w0, c)) [t, k, pl x2, .fro (.str (SX.S I)), pl x4, pl x5] = .ok () [t, k, .fro (.str w0), .fro (.str (SX.S I)), .fro (.str (SX.S [c])), pl x5] := by
      unfold GS prS
      simp [-ev_gSet, gSet_soft]
    rw [List.nil_append, List.map_cons, forGo, g, R.bind_ok, e, R.bind_ok]
  | p :: L, x2, x4, x5, h => by
    obtain ⟨ρ', e⟩ := l1_hit hit L (x2 := some (.str p.1)) (x4 := some (.str (SX.S [p.2]))) (x5 := some (.lst [])) fun q hq => h q (.tail _ hq)
    refine ⟨ρ', ?_⟩
    have g : GS (prS p) [t, k, pl x2, .fro (.str (SX.S I)), pl x4, pl x5] = .ok () [t, k, .fro (.str p.1), .fro (.str (SX.S I)), .fro (.str (SX.S [p.2])), pl x5] := by
      unfold GS prS
      simp [-ev_gSet, gSet_soft]
    rw [List.cons_append, List.map_cons, forGo, g, R.bind_ok, t1_no (h p (.head _)), R.bind_ok]
    exact e
end
theorem calls_br {self : List D → FR} {I : List Nat} {k : Int} : l0_read self [.fro (.str (SX.S (40 :: (I ++ [41])))), .fro (.int k), .no, .no, .no, .no] = .ok .nx [.fro (.str (SX.S (40 :: (I ++ [41])))), .fro (.int k), .fro (.str "subtract"), .no, .no, .no] :=
  calls_loop (x2 := none) (fun e => by unfold upsL at e; injection e with e _; cases e) (fun e => by unfold sbtL at e; injection e with e _; cases e)
theorem br_facts (I : List Nat) (h : I.length ≤ 1000) : Txt.startswith (SX.S (40 :: (I ++ [41]))) (SX.S [40]) = true ∧ Txt.endswith (SX.S (40 :: (I ++ [41]))) (SX.S [41]) = true ∧ sliceD (.str (SX.S (40 :: (I ++ [41])))) (some 1) (some (-1)) = some (.str (SX.S I)) :=
  ⟨st_true (w := [40]) (t := I ++ [41]), ends_rp (40 :: I), sl_in (p := [40]) (q := I) (c := 41) rfl (by simp; omega)⟩
theorem l1_eq {self : List D → FR} {I : List Nat} {t : D} {k : Int} : l1_read self [.fro t, .fro (.int k), .fro (.str "subtract"), .fro (.str (SX.S I)), .no, .no] = forGo GS (t1_read self) (sgP.map prS) [.fro t, .fro (.int k), pl (some (.str "subtract")), .fro (.str (SX.S I)), pl none, pl none] := by
  unfold l1_read sFor
  simp only [ev_iAny, ev_cst, R.bind_ok, it_signs, ev_ofS]
  rfl
theorem read_sign {self : List D → FR} {w : Way} (hw : isCall w = false) {a b : Ex} (ha : a.all NmOk) (hb : b.all NmOk) {k : Int} (hk : k ≤ 12) (l1 : (tx a).length ≤ 450) (l2 : (tx b).length ≤ 450)
    (e1 : self [.str (SX.S (tx a)), .int (k + 1)] = .ok (exD a) []) (e2 : self [.str (SX.S (tx b)), .int (k + 1)] = .ok (exD b) []) : runP 6 2 (b_read self) [.str (SX.S (40 :: ((tx a ++ 32 :: sgW w :: 32 :: tx b) ++ [41]))), .int k] = .ok (exD (.two w a b)) [] := by
  have hk' : ¬ (12 : Int) < k := by omega
  have hc : sgW w = 43 ∨ sgW w = 45 ∨ sgW w = 124 ∨ sgW w = 38 := by cases w <;> first | (cases hw; done) | (unfold sgW; decide)
  have aa : asc (tx a ++ 32 :: sgW w :: 32 :: tx b) := by
    simp only [asc_app, asc_cons]
    exact ⟨tx_asc a ha, by decide, sg_lt w, by decide, tx_asc b hb⟩
  have pt : ∀ c', (c' = 43 ∨ c' = 45 ∨ c' = 124 ∨ c' = 38) → m_parted [.str (SX.S (tx a ++ 32 :: sgW w :: 32 :: tx b)), .str (SX.S (sgL c'))] = .ok (.lst ((if sgW w = c' then [(tx a).length] else []).map fun i => .int (i : Nat))) [] := fun c' hc' => by
    have p := parted_ok (sg := sgL c') aa (by simp; omega) (by unfold asc sgL; rcases hc' with rfl | rfl | rfl | rfl <;> decide) (by unfold sgL; simp)
    rw [prt_mid ha hb hc hc'] at p
    exact p
  have s4 : sliceD (.str (SX.S (tx a ++ 32 :: sgW w :: 32 :: tx b))) none (some ((tx a).length : Int)) = some (.str (SX.S (tx a))) := sl_to (by simp; omega)
  have s5 : sliceD (.str (SX.S (tx a ++ 32 :: sgW w :: 32 :: tx b))) (some (((tx a).length : Int) + 3)) none = some (.str (SX.S (tx b))) := by
    have : tx a ++ 32 :: sgW w :: 32 :: tx b = (tx a ++ [32, sgW w, 32]) ++ tx b := by simp
    rw [this]
    exact sl_from (by simp) (by simp; omega)
  obtain ⟨b1, b2, b3⟩ := br_facts (tx a ++ 32 :: sgW w :: 32 :: tx b) (by simp; omega)
  have hit : ∀ x5, ∃ ρ', t1_read self [.fro (.str (SX.S (40 :: ((tx a ++ 32 :: sgW w :: 32 :: tx b) ++ [41])))), .fro (.int k), .fro (.str w.nm), .fro (.str (SX.S (tx a ++ 32 :: sgW w :: 32 :: tx b))), .fro (.str (SX.S [sgW w])), pl x5] = .ok (.rt (exD (.two w a b))) ρ' := fun x5 => by
    obtain ⟨g1, g2⟩ := ga_sg (sgW w)
    have p := pt (sgW w) hc
    rw [if_pos rfl] at p
    have p : m_parted [.str (SX.S (tx a ++ 32 :: sgW w :: 32 :: tx b)), .str (SX.S (sgL (sgW w)))] = .ok (.lst [.int (tx a).length]) [] := p
    have i0 : gIdx [.lst [.int (tx a).length], .int 0] = some (.int (tx a).length) := rfl
    have ln : gLen [.lst [.int (tx a).length]] = some (.int 1) := rfl
    have line3 : (3 : Nat) ≤ sizeLine := line_pos (by decide)
    have ad : ∀ i j : Int, gAdd [.int i, .int j] = some (.int (i + j)) := fun _ _ => rfl
    have e0 : gEq [.int 1, .int 1] = some (.bl true) := by simp [gEq]
    generalize tx a ++ 32 :: sgW w :: 32 :: tx b = Y at *
    generalize hA : tx a = A at *
    generalize hB : tx b = B at *
    refine ⟨[.fro (.str (SX.S (40 :: (Y ++ [41])))), .fro (.int k), .fro (.str w.nm), .fro (.str (SX.S Y)), .fro (.str (SX.S [sgW w])), .fro (.lst [.int A.length])], ?_⟩
    unfold t1_read
    simp [-ev_gSet, gSet_soft, g1, g2, p, ln, e0, i0, ad, s4, s5, e1, e2, line3]
    rfl
  have c0 := calls_br (self := self) (I := tx a ++ 32 :: sgW w :: 32 :: tx b) (k := k)
  have fin : ∀ (L1 L2 : List (Str × Nat)), sgP = L1 ++ (w.nm, sgW w) :: L2 → (∀ p ∈ L1, (p.2 = 43 ∨ p.2 = 45 ∨ p.2 = 124 ∨ p.2 = 38) ∧ sgW w ≠ p.2) → runP 6 2 (b_read self) [.str (SX.S (40 :: ((tx a ++ 32 :: sgW w :: 32 :: tx b) ++ [41]))), .int k] = .ok (exD (.two w a b)) [] := fun L1 L2 hL hp => by
    obtain ⟨ρ', e⟩ := l1_hit hit L1 (L2 := L2) (x2 := some (.str "subtract")) (x4 := none) (x5 := none) fun p q => by
      have := pt p.2 (hp p q).1
      rw [if_neg (hp p q).2] at this
      exact this
    rw [← hL, ← l1_eq] at e
    have gn : gNeg [.int 1] = some (.int (-1)) := rfl
    generalize tx a ++ 32 :: sgW w :: 32 :: tx b = Y at *
    generalize 40 :: (Y ++ [41]) = Z at *
    unfold runP b_read
    simp [gGt, lexI, hk', c0, gStarts, gEnds, b1, b2, D.truth, gn, b3, e]
  cases w with
  | add => exact fin [] _ rfl (by simp)
  | less => exact fin [("add", 43)] _ rfl (by simp [sgW])
  | most => exact fin [("add", 43), ("less", 45)] _ rfl (by simp [sgW])
  | least => exact fin [("add", 43), ("less", 45), ("most", 124)] _ rfl (by simp [sgW])
  | _ => cases hw
theorem read_one {self : List D → FR} {p : Bool} {a : Ex} (ha : a.all NmOk) {k : Int} (hk : k ≤ 12) (l1 : (tx a).length ≤ 450)
    (e1 : self [.str (SX.S (tx a)), .int (k + 1)] = .ok (exD a) []) : runP 6 2 (b_read self) [.str (SX.S (40 :: ((pmC p :: tx a) ++ [41]))), .int k] = .ok (exD (.one p a)) [] := by
  have hk' : ¬ (12 : Int) < k := by omega
  have aa : asc (pmC p :: tx a) := asc_cons.mpr ⟨pm_lt p, tx_asc a ha⟩
  have pt : ∀ c', c' < 128 → m_parted [.str (SX.S (pmC p :: tx a)), .str (SX.S (sgL c'))] = .ok (.lst []) [] := fun c' hc' => by
    have q := parted_ok (sg := sgL c') aa (by simp; omega) (by unfold asc sgL; simp; omega) (by unfold sgL; simp)
    rw [prt_one ha p] at q
    exact q
  obtain ⟨x2', x4', x5', e⟩ := l1_none (self := self) (I := pmC p :: tx a) (t := .fro (.str (SX.S (40 :: ((pmC p :: tx a) ++ [41]))))) (k := .fro (.int k)) sgP (x2 := some (.str "subtract")) (x4 := none) (x5 := none) (by
    intro q hq
    refine pt q.2 ?_
    unfold sgP at hq
    simp only [List.mem_cons, List.not_mem_nil, or_false] at hq
    rcases hq with rfl | rfl | rfl | rfl <;> decide)
  rw [← l1_eq] at e
  obtain ⟨b1, b2, b3⟩ := br_facts (pmC p :: tx a) (by simp; omega)
  have c0 := calls_br (self := self) (I := pmC p :: tx a) (k := k)
  have gn : gNeg [.int 1] = some (.int (-1)) := rfl
  have s1 : sliceD (.str (SX.S (pmC p :: tx a))) none (some 1) = some (.str (SX.S [pmC p])) := sl_to (p := [pmC p]) (q := tx a) (by simp; omega)
  have s2 : sliceD (.str (SX.S (pmC p :: tx a))) (some 1) none = some (.str (SX.S (tx a))) := sl_from (p := [pmC p]) (q := tx a) rfl (by simp; omega)
  have i0 : gIdx [.str (SX.S (pmC p :: tx a)), .int 0] = some (.str (SX.S [pmC p])) := by
    show (if (SX.S (pmC p :: tx a)).length ≤ sizeLine then (L2.atI (pmC p :: tx a) 0).map fun c => D.str ⟨#[c]⟩ else none) = _
    rw [SX.S_len, if_pos (line_pos (by simp; omega)), at_0]
    rfl
  have q1 : gIn [.str (SX.S [pmC p]), .tup [.str "+", .str "-"]] = some (.bl true) := by cases p <;> exact okB_eq (by decide +kernel)
  have q2 : gEq [.str (SX.S [pmC p]), .str "+"] = some (.bl p) := by cases p <;> exact okB_eq (by decide +kernel)
  have ad : ∀ i j : Int, gAdd [.int i, .int j] = some (.int (i + j)) := fun _ _ => rfl
  generalize pmC p :: tx a = Y at *
  generalize 40 :: (Y ++ [41]) = Z at *
  unfold runP b_read
  cases p <;> simp [gGt, lexI, hk', c0, gStarts, gEnds, b1, b2, D.truth, gn, b3, e, s1, s2, i0, q1, q2, ad, e1, line2] <;> rfl
theorem read_ok : ∀ (e : Ex) (f k : Nat), e.deep ≤ f → k + e.deep ≤ 13 → e.all NmOk → e.size ≤ 30 → m_read f [.str (SX.S (tx e)), .int k] = .ok (exD e) []
  | e, 0, k, hf, _, _, _ => by have := e.deep_pos; omega
  | .get x, f + 1, k, hf, hk, h, _ => by
    rw [Ex.deep] at hk
    have := read_get (self := m_read f) (t := tx (.get x)) (k := (k : Int)) (by omega) fun c hc => by have := low_nm h c hc; omega
    refine Eq.trans this ?_
    rw [show SX.S (tx (.get x)) = x from SX.S_tl x]
    rfl
  | .one p e, f + 1, k, hf, hk, h, hs => by
    rw [Ex.deep] at hf hk
    rw [Ex.size] at hs
    have l := tx_len' (e := e) h
    have r : m_read f [.str (SX.S (tx e)), .int ((k : Int) + 1)] = .ok (exD e) [] := read_ok e f (k + 1) (by omega) (by omega) h (by omega)
    have q := read_one (self := m_read f) (p := p) (a := e) (k := (k : Int)) h (by omega) (by omega) r
    have e1 : tx (.one p e) = 40 :: ((pmC p :: tx e) ++ [41]) := by simp [tx]
    rw [e1]
    exact q
  | .two w a b, f + 1, k, hf, hk, h, hs => by
    rw [Ex.deep] at hf hk
    rw [Ex.size] at hs
    have la := tx_len' (e := a) h.1
    have lb := tx_len' (e := b) h.2
    have ra : m_read f [.str (SX.S (tx a)), .int ((k : Int) + 1)] = .ok (exD a) [] := read_ok a f (k + 1) (by omega) (by omega) h.1 (by omega)
    have rb : m_read f [.str (SX.S (tx b)), .int ((k : Int) + 1)] = .ok (exD b) [] := read_ok b f (k + 1) (by omega) (by omega) h.2 (by omega)
    cases hw : isCall w with
    | true => exact read_call (self := m_read f) (k := (k : Int)) hw h.1 h.2 (by omega) (by omega) (by omega) ra rb
    | false =>
      have r := read_sign (self := m_read f) (k := (k : Int)) hw h.1 h.2 (by omega) (by omega) (by omega) ra rb
      have e : tx (.two w a b) = 40 :: ((tx a ++ 32 :: sgW w :: 32 :: tx b) ++ [41]) := by cases w <;> first | (cases hw; done) | simp [tx]
      rw [e]
      exact r
end Lw

/-! bls_all, of PlNamed. -/
namespace Lw
open Dt PySem
theorem bls_all {α : Type} (p : α → Bool) (l : List α) : gAll [.lst (l.map fun x => .bl (p x))] = some (.bl (l.all p)) := by
  have : blsOf (l.map fun x => D.bl (p x)) = some (l.map p) := by
    induction l with
    | nil => rfl
    | cons x l ih => rw [List.map_cons, blsOf_cons, ih]; rfl
  show (blsOf _).map _ = _
  rw [this, Option.map_some, List.all_map]
  rfl
end Lw
/-! Scripts: what they are, at any value; their names. -/
namespace Dt
open PySem
abbrev Sp := Str × Option Way × Ex
abbrev Sc := List Sp
def wayN : Option Way → Str
  | none => "set"
  | some w => w.nm
def stD (s : Sp) : D := .tup [.str s.1, .str (wayN s.2.1), exD s.2.2]
def scD (c : Sc) : D := .tup (c.map stD)
def usedS (σ : List Str) (s : Sp) : List Str := s.2.2.names.foldl kindS (kindS σ s.1)
def usedN (c : Sc) : List Str := c.foldl usedS []
def sizeS (c : Sc) : Nat := (c.map fun s => s.2.2.size).sum
def allN (c : Sc) : List Str := c.flatMap fun s => s.1 :: riseOf s.2.2.names
theorem mem_usedS {σ : List Str} {s : Sp} {x : Str} : x ∈ usedS σ s ↔ x ∈ σ ∨ x = s.1 ∨ x ∈ s.2.2.names := by
  unfold usedS
  rw [foldl_mem, mem_kindS, or_assoc]
theorem usedS_nd {σ : List Str} {s : Sp} (h : σ.Nodup) : (usedS σ s).Nodup := foldl_nd (by
  unfold kindS
  split
  · exact h
  · rename_i hn
    exact List.nodup_append.mpr ⟨h, by simp, fun a ha b hb e => hn (by rw [List.mem_singleton.mp hb] at e; rw [← e]; exact ha)⟩)
theorem used_go : ∀ (c : Sc) (σ : List Str), σ.Nodup → (c.foldl usedS σ).Nodup ∧ ∀ x, x ∈ c.foldl usedS σ ↔ x ∈ σ ∨ ∃ s ∈ c, x = s.1 ∨ x ∈ s.2.2.names
  | [], σ, h => ⟨h, fun x => by simp⟩
  | s :: c, σ, h => by
    obtain ⟨h1, h2⟩ := used_go c (usedS σ s) (usedS_nd h)
    refine ⟨h1, fun x => (h2 x).trans ?_⟩
    rw [mem_usedS]
    simp only [List.mem_cons, exists_eq_or_imp, or_assoc]
theorem used_nd (c : Sc) : (usedN c).Nodup := (used_go c [] List.nodup_nil).1
theorem mem_used {c : Sc} {x : Str} : x ∈ usedN c ↔ ∃ s ∈ c, x = s.1 ∨ x ∈ s.2.2.names := ((used_go c [] List.nodup_nil).2 x).trans (by simp)
theorem mem_allN {c : Sc} {x : Str} : x ∈ allN c ↔ x ∈ usedN c := by
  rw [mem_used]
  unfold allN
  rw [List.mem_flatMap]
  simp only [List.mem_cons, mem_riseOf]
end Dt
namespace Lw
open Dt PySem
theorem len_usedS (σ : List Str) (s : Sp) : (usedS σ s).length ≤ σ.length + (1 + s.2.2.size) := by
  have go : ∀ (l σ : List Str), (l.foldl kindS σ).length ≤ σ.length + l.length := fun l => by
    induction l with
    | nil => intro σ; exact Nat.le_refl _
    | cons x l ih =>
      intro σ
      have := ih (kindS σ x)
      have : (kindS σ x).length ≤ σ.length + 1 := by rw [len_kindS]; split <;> omega
      rw [List.foldl_cons, List.length_cons]
      omega
  have h1 := go s.2.2.names (kindS σ s.1)
  have h2 : (kindS σ s.1).length ≤ σ.length + 1 := by rw [len_kindS]; split <;> omega
  have h3 := Ex.names_len s.2.2
  unfold usedS
  omega
theorem len_used_go : ∀ (c : Sc) (σ : List Str), (c.foldl usedS σ).length ≤ σ.length + (c.length + sizeS c)
  | [], σ => by simp [sizeS]
  | s :: c, σ => by
    have h1 := len_used_go c (usedS σ s)
    have h2 := len_usedS σ s
    have h3 : sizeS (s :: c) = s.2.2.size + sizeS c := by unfold sizeS; rw [List.map_cons, List.sum_cons]
    rw [List.foldl_cons, List.length_cons, h3]
    omega
theorem len_allN : ∀ c : Sc, (allN c).length ≤ c.length + sizeS c
  | [] => Nat.le_refl _
  | s :: c => by
    have h1 := len_allN c
    have h2 := Ex.names_len s.2.2
    have h3 : sizeS (s :: c) = s.2.2.size + sizeS c := by unfold sizeS; rw [List.map_cons, List.sum_cons]
    unfold allN at h1 ⊢
    rw [List.flatMap_cons, List.length_append, List.length_cons, List.length_cons, rise_len s.2.2.names_nd, h3]
    omega
def runB : FR → Bool
  | .ok (.bl b) _ => b
  | _ => false
def exprB (d : D) : Bool := runB (m_is_expression [d])
theorem exprB_ok {m n : Nat} {d : D} (hm : m ≤ 1000) (hn : n ≤ 38) (ok : Ok m n d) : m_is_expression [d] = .ok (.bl (exprB d)) [] ∧ (exprB d = true → ∃ e, d = exD e ∧ ExOk e) := by
  obtain ⟨b, e, h⟩ := exp_any hm hn ok
  have : exprB d = b := by unfold exprB; rw [e]; rfl
  rw [this]
  exact ⟨e, h⟩
def isW (w : Str) : Bool := pr6 w || w == Str.ofString "set"
def stepV (d : D) : Bool := match d with
  | .tup [x, .str w, e] => isN x && (isW w && exprB e)
  | _ => false
structure SpOk (s : Sp) : Prop where
  nm : NmOk s.1
  ex : ExOk s.2.2
theorem isW_way {w : Str} (h : isW w = true) : ∃ o, w = wayN o := by
  unfold isW at h
  rw [Bool.or_eq_true, beq_iff_eq] at h
  rcases h with h | rfl
  · obtain ⟨v, rfl⟩ := pr6_way h
    exact ⟨some v, rfl⟩
  · exact ⟨none, rfl⟩
theorem stepV_form {m n : Nat} {d : D} (hm : m ≤ 1000) (hn : n ≤ 38) (ok : Ok m n d) (h : stepV d = true) : ∃ s, d = stD s ∧ SpOk s := by
  unfold stepV at h
  split at h
  · rename_i x w e
    rw [Bool.and_eq_true, Bool.and_eq_true] at h
    obtain ⟨hx, hw, he⟩ := h
    obtain ⟨z, rfl, hz⟩ := isN_nm hx
    obtain ⟨o, rfl⟩ := isW_way hw
    cases n with
    | zero => exact ok.elim
    | succ n =>
      obtain ⟨e, rfl, h⟩ := (exprB_ok hm (by omega) (ok.2 _ (.tail _ (.tail _ (.head _))))).2 he
      exact ⟨(z, o, e), rfl, hz, h⟩
  · cases h
theorem steps_form {m n : Nat} (hm : m ≤ 1000) (hn : n ≤ 38) : ∀ {ds : List D}, (∀ d ∈ ds, Ok m n d) → ds.all stepV = true → ∃ c : Sc, ds = c.map stD ∧ ∀ s ∈ c, SpOk s
  | [], _, _ => ⟨[], rfl, fun _ h => nomatch h⟩
  | d :: ds, ok, h => by
    rw [List.all_cons, Bool.and_eq_true] at h
    obtain ⟨s, rfl, hs⟩ := stepV_form hm hn (ok d (.head _)) h.1
    obtain ⟨c, rfl, hc⟩ := steps_form hm hn (fun d hd => ok d (.tail _ hd)) h.2
    exact ⟨s :: c, rfl, fun t ht => (List.mem_cons.mp ht).elim (fun e => e ▸ hs) (hc t)⟩
theorem at3 {α : Type} (x y z : α) : L2.atI [x, y, z] 0 = some x ∧ L2.atI [x, y, z] 1 = some y ∧ L2.atI [x, y, z] 2 = some z := ⟨rfl, rfl, rfl⟩
theorem eq_set {m n : Nat} {s : Str} (h : Ok m n (.str s)) : eqD (.str s) (.str "set") = some (s == Str.ofString "set") := eq_str h (word_ok (by decide +kernel))
theorem isstep_ok {m n : Nat} {d : D} (hm : m ≤ 1000) (hn : n ≤ 38) (ok : Ok m n d) : m_is_step [d] = .ok (.bl (stepV d)) [] := by
  show runP 1 1 b_is_step _ = _
  unfold runP b_is_step
  cases d with
  | tup ds =>
    obtain ⟨n, rfl⟩ : ∃ j, n = j + 1 := by
      cases n with
      | zero => exact ok.elim
      | succ n => exact ⟨n, rfl⟩
    match ds, ok with
    | [], _ => simp [isT, isTn, tyN, gLen, gNe, D.truth, stepV]
    | [x], _ => simp [isT, isTn, tyN, gLen, gNe, D.truth, stepV]
    | [x, y], _ => simp [isT, isTn, tyN, gLen, gNe, D.truth, stepV]
    | x :: y :: z :: w :: r, _ =>
      have g3 : ((r.length : Int) + 1 + 1 + 1 + 1 == 3) = false := beq_eq_false_iff_ne.mpr (by omega)
      simp [isT, isTn, tyN, gLen, gNe, g3, D.truth, stepV]
    | [x, y, z], ok =>
      obtain ⟨a0, a1, a2⟩ := at3 x y z
      have hx := name_ok (ok.2 x (.head _)) hm
      have ez := (exprB_ok hm (by omega) (ok.2 z (.tail _ (.tail _ (.head _))))).1
      have oky := ok.2 y (.tail _ (.head _))
      cases y with
      | str w =>
        have es := eq_set oky
        have ip := in_pr6 w
        cases e1 : isN x with
        | false => simp [isT, isTn, tyN, gLen, gNe, gIdx, idxD, a0, a1, a2, hx, e1, D.truth, stepV]
        | true =>
          cases e2 : w == Str.ofString "set" with
          | true => simp [isT, isTn, tyN, gLen, gNe, gIdx, idxD, a0, a1, a2, hx, e1, gEq, es, e2, ez, D.truth, stepV, isW]
          | false => cases e3 : pr6 w <;> simp [isT, isTn, tyN, gLen, gNe, gIdx, idxD, a0, a1, a2, hx, e1, gEq, es, e2, e3, ip, ez, D.truth, stepV, isW]
      | _ => first | (cases n <;> exact oky.elim) | (cases e1 : isN x <;> simp [isT, isTn, tyN, gLen, gNe, gIdx, idxD, a0, a1, a2, hx, e1, D.truth, stepV])
  | _ => first | (cases n <;> exact ok.elim) | simp [isT, isTn, tyN, D.truth, stepV]
/-! ### names -/
theorem used_loop {th : Cell} : ∀ (c : Sc) (σ : List Str) {x2 x3 x4 : Option D}, (∀ s ∈ c, s.2.2.size ≤ 12) → σ.length + (c.length + sizeS c) ≤ 500 →
    ∃ x2' x3' x4', forGo (gTup' 3 (gC (gSet 2) (gC (gSet 3) (gC (gSet 4) gN)))) t0_names_used (c.map stD) [th, .own (nmD σ), pl x2, pl x3, pl x4] = .ok .nx [th, .own (nmD (c.foldl usedS σ)), pl x2', pl x3', pl x4']
  | [], σ, x2, x3, x4, _, _ => ⟨x2, x3, x4, rfl⟩
  | s :: c, σ, x2, x3, x4, hs, hl => by
    have s12 := hs s (.head _)
    have h3 : sizeS (s :: c) = s.2.2.size + sizeS c := by unfold sizeS; rw [List.map_cons, List.sum_cons]
    rw [List.length_cons, h3] at hl
    have m := names_ok s.2.2 40 (by omega) (by omega)
    have l1 := len_usedS σ s
    have l2 := Ex.names_len s.2.2
    have k1 : (kindS σ s.1).length ≤ σ.length + 1 := by rw [len_kindS]; split <;> omega
    have z1 : σ.length < sizeLine := small_line (by omega)
    have z2 : (kindS σ s.1).length + s.2.2.names.length ≤ sizeLine := line_pos (by omega)
    have p1 := put_nm σ s.1
    have p2 := put_all s.2.2.names (kindS σ s.1)
    have g : gTup' 3 (gC (gSet 2) (gC (gSet 3) (gC (gSet 4) gN))) (stD s) [th, .own (nmD σ), pl x2, pl x3, pl x4] = .ok () [th, .own (nmD σ), .fro (.str s.1), .fro (.str (wayN s.2.1)), .fro (exD s.2.2)] := by
      simp [-ev_gSet, gSet_soft, stD]
    have st : t0_names_used [th, .own (nmD σ), .fro (.str s.1), .fro (.str (wayN s.2.1)), .fro (exD s.2.2)] = .ok .nx [th, .own (nmD (usedS σ s)), .fro (.str s.1), .fro (.str (wayN s.2.1)), .fro (exD s.2.2)] := by
      unfold t0_names_used
      unfold nmD at m ⊢
      simp [putD, z1, p1, m, z2, p2, usedS]
    obtain ⟨a, b, c', e⟩ := used_loop (th := th) c (usedS σ s) (x2 := some (.str s.1)) (x3 := some (.str (wayN s.2.1))) (x4 := some (exD s.2.2)) (fun t ht => hs t (.tail _ ht)) (by omega)
    refine ⟨a, b, c', ?_⟩
    rw [List.map_cons]
    unfold forGo
    rw [g, R.bind_ok, st, R.bind_ok]
    exact e
theorem used_ok {c : Sc} (hs : ∀ s ∈ c, s.2.2.size ≤ 12) (hl : c.length + sizeS c ≤ 60) : m_names_used [scD c] = .ok (nmL (riseOf (usedN c))) [] := by
  obtain ⟨x2, x3, x4, e⟩ := used_loop (th := .fro (scD c)) c [] (x2 := none) (x3 := none) (x4 := none) hs (by simp; omega)
  have e : forGo (gTup' 3 (gC (gSet 2) (gC (gSet 3) (gC (gSet 4) gN)))) t0_names_used (c.map stD) [.fro (scD c), .own (.dct [] []), .no, .no, .no] = .ok .nx [.fro (scD c), .own (nmD (usedN c)), pl x2, pl x3, pl x4] := e
  have lu := len_used_go c []
  have gl : gList [nmD (usedN c)] = some (nmL (usedN c)) := by
    show some (D.lst (((usedN c).map Sum.inr).map keyD)) = _
    rw [List.map_map]
    rfl
  have gs : gSortA [nmL (usedN c)] = some (nmL (riseOf (usedN c))) := gSortA_map (by unfold usedN; simp at lu; omega) (used_nd c)
  have it : itemsD (scD c) = some (c.map stD) := rfl
  show runP 5 1 b_names_used _ = _
  unfold runP b_names_used l0_names_used sFor
  simp [it, e, gl, gs]
end Lw
/-! Scripts: both checks at any value. -/
namespace Lw
open Dt PySem
theorem sc_comp0 {m n : Nat} {ds : List D} (hm : m ≤ 1000) (hn : n ≤ 37) (ok : ∀ d ∈ ds, Ok m n d) (hl : ds.length ≤ 1000) : c0_is_script [.fro (.tup ds), .no] = .ok (.lst (ds.map fun d => .bl (stepV d))) [.fro (.tup ds), .no] := by
  have e := comp1a (i := 1) (ρ := [.fro (.tup ds), .no]) (ds := ds) (s := sCallP 1 (m_is_step) (sCons (sVar 1) sNil)) (fun d => .bl (stepV d)) rfl fun d hd => by
    simp [isstep_ok hm (by omega) (ok d hd)]
  have hz : ds.length ≤ sizeLine := line_pos (by omega)
  unfold c0_is_script sComp
  simp [itemsD, plain_cons, plain_nil, hz, wipeE, e, backE]
theorem sum_ints {α : Type} (f : α → Nat) : ∀ xs : List α, gSum [.lst (xs.map fun x => .int (f x))] = some (.int ((xs.map f).sum : Nat)) := fun xs => by
  have e : intsOf (xs.map fun x => D.int (f x)) = some (xs.map fun x => (f x : Int)) := by
    induction xs with
    | nil => rfl
    | cons x xs ih => rw [List.map_cons, List.map_cons]; unfold intsOf; rw [ih]; rfl
  show (intsOf _).map _ = _
  rw [e]
  have : (xs.map fun x => (f x : Int)).sum = ((xs.map f).sum : Nat) := by
    clear e
    induction xs with
    | nil => rfl
    | cons x xs ih => rw [List.map_cons, List.map_cons, List.sum_cons, List.sum_cons, ih]; omega
  rw [Option.map_some, this]
theorem sc_comp1 {c : Sc} (hs : ∀ s ∈ c, s.2.2.size ≤ 12) (hl : c.length ≤ 1000) : c1_is_script [.fro (scD c), .no] = .ok (.lst (c.map fun s => .int (s.2.2.size : Nat))) [.fro (scD c), .no] := by
  have e := comp1e (enc := stD) (i := 1) (ρ := [.fro (scD c), .no]) (xs := c) (s := sCallP 1 (m_size_of 40) (sCons (sOps gIdx (b2 (sLoc 1) (sVal (sCst (.int 2))))) sNil)) (fun s => .int (s.2.2.size : Nat)) rfl fun s hc => by
    have i2 : gIdx [stD s, .int 2] = some (exD s.2.2) := rfl
    simp [i2, size_dep s.2.2 40 (by have := s.2.2.deep_size; have := hs s hc; omega)]
  have hz : c.length ≤ sizeLine := line_pos (by omega)
  have it : itemsD (scD c) = some (c.map stD) := rfl
  unfold c1_is_script sComp
  simp [it, plain_cons, plain_nil, hz, wipeE, e, backE]
def scriptB (c : Sc) : Bool := decide (sizeS c ≤ 12) && decide ((usedN c).length ≤ 3)
structure ScOk (c : Sc) : Prop where
  sp : ∀ s ∈ c, SpOk s
  six : c.length ≤ 6
  few : sizeS c ≤ 12
  three : (usedN c).length ≤ 3
theorem sc_yes {c : Sc} (sp : ∀ s ∈ c, SpOk s) (h6 : c.length ≤ 6) (c0 : c0_is_script [.fro (scD c), .no] = .ok (.lst ((c.map stD).map fun d => .bl (stepV d))) [.fro (scD c), .no]) (ha : (c.map stD).all stepV = true) : m_is_script [scD c] = .ok (.bl (scriptB c)) [] := by
  have s12 : ∀ s ∈ c, s.2.2.size ≤ 12 := fun s hs => (sp s hs).ex.few
  have c1 := sc_comp1 s12 (by omega)
  have sm := sum_ints (fun s : Sp => s.2.2.size) c
  have sm : gSum [.lst (c.map fun s => .int (s.2.2.size : Nat))] = some (.int (sizeS c : Nat)) := sm
  have al := bls_all stepV (c.map stD)
  rw [ha] at al
  have ln : gLen [scD c] = some (.int c.length) := by show some (D.int ((c.map stD).length : Nat)) = _; rw [List.length_map]
  have ty : isTo ["tuple"] (scD c) = some (.bl true) := rfl
  have h6' : ¬ (6 : Int) < c.length := by omega
  generalize (c.map stD).map (fun d => D.bl (stepV d)) = Z at c0 al
  generalize c.map (fun s => D.int (s.2.2.size : Nat)) = Y at c1 sm
  show runP 2 1 b_is_script _ = _
  unfold runP b_is_script scriptB
  by_cases hz : sizeS c ≤ 12
  · have hz' : ¬ (12 : Int) < sizeS c := by omega
    have u := used_ok s12 (by omega)
    have lu := len_nmL (riseOf (usedN c))
    rw [rise_len (used_nd c)] at lu
    by_cases h3 : (usedN c).length ≤ 3
    · have h3' : ((usedN c).length : Int) ≤ 3 := by omega
      simp [ty, ln, gGt, gLe, lexI, h6', c0, al, D.truth, c1, sm, hz, hz', u, lu, h3, h3']
    · have h3' : ¬ ((usedN c).length : Int) ≤ 3 := by omega
      simp [ty, ln, gGt, gLe, lexI, h6', c0, al, D.truth, c1, sm, hz, hz', u, lu, h3, h3']
  · have hz' : (12 : Int) < sizeS c := by omega
    simp [ty, ln, gGt, gLe, lexI, h6', c0, al, D.truth, c1, sm, hz, hz']
theorem sc_no {m n : Nat} {d : D} (hm : m ≤ 1000) (hn : n ≤ 37) (ok : Ok m n d) (h : ∀ ds, d = .tup ds → ¬ (ds.length ≤ 6 ∧ ds.all stepV = true)) : m_is_script [d] = .ok (.bl false) [] := by
  show runP 2 1 b_is_script _ = _
  unfold runP b_is_script
  cases d with
  | tup ds =>
    obtain ⟨n, rfl⟩ : ∃ j, n = j + 1 := by
      cases n with
      | zero => exact ok.elim
      | succ n => exact ⟨n, rfl⟩
    by_cases h6 : ds.length ≤ 6
    · have h6' : ¬ (6 : Int) < ds.length := by omega
      have ha : ds.all stepV = false := by
        cases e : ds.all stepV with
        | false => rfl
        | true => exact (h ds rfl ⟨h6, e⟩).elim
      have c0 := sc_comp0 hm (by omega) ok.2 (by omega)
      have al := bls_all stepV ds
      rw [ha] at al
      generalize ds.map (fun d => D.bl (stepV d)) = Z at c0 al
      simp [isT, isTn, tyN, gLen, gGt, lexI, h6', c0, al, D.truth]
    · have h6' : (6 : Int) < ds.length := by omega
      simp [isT, isTn, tyN, gLen, gGt, lexI, h6', D.truth]
  | _ => first | (cases n <;> exact ok.elim) | simp [isT, isTn, tyN, D.truth]
/-! ### the law's check -/
theorem wayN_isW (o : Option Way) : isW (wayN o) = true := by
  cases o with
  | none => rfl
  | some w => unfold isW; rw [show wayN (some w) = w.nm from rfl, (pr6_of w).1]; rfl
theorem exprB_yes {e : Ex} (h : ExOk e) : m_is_expression [exD e] = .ok (.bl true) [] := expr_ok h.few h.nms h.three
end Lw
namespace Lw
open Dt PySem
theorem stepV_yes {s : Sp} (h : SpOk s) : stepV (stD s) = true := by
  have e : exprB (exD s.2.2) = true := by unfold exprB; rw [exprB_yes h.ex]; rfl
  show (isN (.str s.1) && (isW (wayN s.2.1) && exprB (exD s.2.2))) = true
  rw [h.nm.2, wayN_isW, e]
  rfl
theorem script_true {m n : Nat} {c : Sc} (hm : m ≤ 1000) (hn : n ≤ 36) (ok : Ok m (n + 1) (scD c)) (sp : ∀ s ∈ c, SpOk s) (h : m_is_script [scD c] = .ok (.bl true) []) : ScOk c := by
  have ha : (c.map stD).all stepV = true := by
    rw [List.all_map, List.all_eq_true]
    exact fun s hs => stepV_yes (sp s hs)
  by_cases h6 : c.length ≤ 6
  · have c0 := sc_comp0 hm (by omega) ok.2 (by rw [List.length_map]; omega)
    rw [sc_yes sp h6 c0 ha] at h
    injection h with h
    injection h with h
    unfold scriptB at h
    rw [Bool.and_eq_true, decide_eq_true_eq, decide_eq_true_eq] at h
    exact ⟨sp, h6, h.1, h.2⟩
  · rw [sc_no hm (by omega) ok (fun ds e z => by
      unfold scD at e
      injection e with e
      rw [← e, List.length_map] at z
      exact h6 z.1)] at h
    injection h with h
    injection h with h
    cases h
end Lw

/-! The law's texts; lines of scripts, both. -/
namespace Dt
open PySem
/-- a step as a line -/
def stx (s : Sp) : List Nat := s.1.cps.toList ++ match s.2.1 with
  | none => 32 :: 61 :: 32 :: tx s.2.2
  | some .update => 46 :: (upsL ++ 40 :: (tx s.2.2 ++ [41]))
  | some .subtract => 46 :: (sbtL ++ 40 :: (tx s.2.2 ++ [41]))
  | some w => 32 :: sgW w :: 61 :: 32 :: tx s.2.2
end Dt
namespace Lw
open Dt PySem
/-! ### lines -/
@[simp] theorem l_dot : Str.ofString "." = SX.S [46] := rfl
@[simp] theorem l_seq : Str.ofString " = " = SX.S [32, 61, 32] := rfl
@[simp] theorem l_eqs : Str.ofString "= " = SX.S [61, 32] := rfl
@[simp] theorem l_nl : Str.ofString "\n" = SX.S [10] := rfl
theorem set_eqT : eqD (.str "set") (.str "set") = some true := by decide +kernel
theorem way_setT (w : Way) : eqD (.str w.nm) (.str "set") = some false := by cases w <;> decide +kernel
theorem set_callT : gIn [.str "set", .arg [.str "update", .str "subtract"]] = some (.bl false) := okB_eq (by decide +kernel)
section
variable {x : Str} {e : Ex}
theorem xl {x : Str} (hx : NmOk x) : x.cps.toList.length ≤ 8 := by
  have : x.cps.toList.length = x.length := Array.length_toList
  have := hx.1.1
  omega
theorem line_ok {s : Sp} (hx : NmOk s.1) (he : s.2.2.all NmOk) (hs : s.2.2.size ≤ 30) : m_line_of [stD s] = .ok (.str (SX.S (stx s))) [] := by
  obtain ⟨x, o, e⟩ := s
  have lx := xl hx
  have le := tx_len' (e := e) he
  have te := text_ok e 40 (by have := e.deep_size; simp only at hs; omega) he (by simp only at hs; omega)
  simp only at hs
  have sx : D.str x = .str (SX.S x.cps.toList) := by rw [SX.S_tl]
  unfold stx
  simp only
  generalize tx e = Z at *
  show runP 4 1 b_line_of [.tup [.str x, .str (wayN o), exD e]] = _
  rw [sx]
  generalize x.cps.toList = X at *
  unfold runP b_line_of
  cases o with
  | none =>
    have se := set_eqT
    simp (disch := (simp only [List.length_cons, List.length_append, List.length_nil]; omega)) [wayN, gEq, se, te, add_S]
  | some w =>
    have se := way_setT w
    have ic := in_calls w
    cases hw : isCall w with
    | true =>
      rw [hw] at ic
      cases w with
      | update =>
        have wu : D.str (wayN (some .update)) = .str (SX.S upsL) := rfl
        rw [wu]
        have wu : D.str (Way.nm .update) = .str (SX.S upsL) := rfl
        rw [wu] at se ic
        simp (disch := (simp only [List.length_cons, List.length_append, List.length_nil, upsL]; omega)) [gEq, se, ic, te, add_S]
      | subtract =>
        have wu : D.str (wayN (some .subtract)) = .str (SX.S sbtL) := rfl
        rw [wu]
        have wu : D.str (Way.nm .subtract) = .str (SX.S sbtL) := rfl
        rw [wu] at se ic
        simp (disch := (simp only [List.length_cons, List.length_append, List.length_nil, sbtL]; omega)) [gEq, se, ic, te, add_S]
      | _ => cases hw
    | false =>
      rw [hw] at ic
      have sg := sgs_ok hw
      cases w <;> first | (cases hw; done) | skip
      all_goals simp (disch := (simp only [List.length_cons, List.length_append, List.length_nil]; omega)) [wayN, gEq, se, ic, te, sg, add_S]
end
end Lw

/-! Lines of scripts, read. -/
namespace Lw
open Dt PySem
theorem par_no {S a : List Nat} (h : ∀ u v, a ≠ u ++ (S ++ v)) : TL.par S [] a = none := TL.par_none fun i _ => by
  cases e : TL.pre S (a.drop i) with
  | false => rfl
  | true =>
    have e : ((a.drop i).take S.length == S) = true := e
    have e := eq_of_beq e
    refine (h (a.take i) ((a.drop i).drop S.length) ?_).elim
    have := List.take_append_drop S.length (a.drop i)
    rw [e] at this
    rw [this, List.take_append_drop]
theorem uniq_split {c : Nat} : ∀ {p p' q q' : List Nat}, p ++ c :: q = p' ++ c :: q' → c ∉ p → c ∉ q → p' = p ∧ q' = q
  | [], [], q, q', e, _, _ => by injection e with _ e; exact ⟨rfl, e.symm⟩
  | [], d :: p', q, q', e, _, h => by
    injection e with _ e
    exact (h (by rw [e]; simp)).elim
  | a :: p, [], q, q', e, h, _ => by
    injection e with e _
    exact (h (by rw [e]; simp)).elim
  | a :: p, d :: p', q, q', e, h1, h2 => by
    injection e with e1 e2
    obtain ⟨r1, r2⟩ := uniq_split e2 (fun z => h1 (.tail _ z)) h2
    exact ⟨by rw [e1, r1], r2⟩
theorem tx_all {P : Nat → Prop} (hl : ∀ c, 97 ≤ c → c ≤ 122 → P c) (ho : ∀ c ∈ [40, 41, 44, 32, 43, 45, 124, 38], P c) : ∀ e : Ex, e.all NmOk → ∀ c ∈ tx e, P c
  | .get x, h => fun c hc => by have := low_nm h c hc; exact hl c this.1 this.2
  | .one p e, h => fun c hc => by
    have ih := tx_all hl ho e h
    simp only [tx, List.mem_cons, List.mem_append, List.not_mem_nil, or_false] at hc
    rcases hc with rfl | rfl | hc | rfl
    · exact ho _ (by simp)
    · exact ho _ (by cases p <;> simp [pmC])
    · exact ih c hc
    · exact ho _ (by simp)
  | .two w a b, h => fun c hc => by
    have ia := tx_all hl ho a h.1
    have ib := tx_all hl ho b h.2
    have lu : ∀ c ∈ upsL, P c := fun c hc => by
      have : 97 ≤ c ∧ c ≤ 122 := (by decide : ∀ c ∈ upsL, 97 ≤ c ∧ c ≤ 122) c hc
      exact hl c this.1 this.2
    have ls : ∀ c ∈ sbtL, P c := fun c hc => by
      have : 97 ≤ c ∧ c ≤ 122 := (by decide : ∀ c ∈ sbtL, 97 ≤ c ∧ c ≤ 122) c hc
      exact hl c this.1 this.2
    cases w with
    | update =>
      simp only [tx, List.mem_cons, List.mem_append, List.not_mem_nil, or_false] at hc
      rcases hc with hc | rfl | hc | rfl | rfl | hc | rfl
      · exact lu c hc
      · exact ho _ (by simp)
      · exact ia c hc
      · exact ho _ (by simp)
      · exact ho _ (by simp)
      · exact ib c hc
      · exact ho _ (by simp)
    | subtract =>
      simp only [tx, List.mem_cons, List.mem_append, List.not_mem_nil, or_false] at hc
      rcases hc with hc | rfl | hc | rfl | rfl | hc | rfl
      · exact ls c hc
      · exact ho _ (by simp)
      · exact ia c hc
      · exact ho _ (by simp)
      · exact ho _ (by simp)
      · exact ib c hc
      · exact ho _ (by simp)
    | _ =>
      simp only [tx, List.mem_cons, List.mem_append, List.not_mem_nil, or_false] at hc
      rcases hc with rfl | hc | rfl | rfl | rfl | hc | rfl
      · exact ho _ (by simp)
      · exact ia c hc
      · exact ho _ (by simp)
      · exact ho _ (by simp [sgW])
      · exact ho _ (by simp)
      · exact ib c hc
      · exact ho _ (by simp)
theorem tx_no {e : Ex} (h : e.all NmOk) : 61 ∉ tx e ∧ 46 ∉ tx e ∧ 10 ∉ tx e := by
  have := tx_all (P := fun c => c ≠ 61 ∧ c ≠ 46 ∧ c ≠ 10) (fun c _ _ => ⟨by omega, by omega, by omega⟩) (by decide) e h
  exact ⟨fun z => (this _ z).1 rfl, fun z => (this _ z).2.1 rfl, fun z => (this _ z).2.2 rfl⟩
theorem nm_no {x : Str} (h : NmOk x) {c : Nat} (hc : c < 97) : c ∉ x.cps.toList := fun z => by have := low_nm h c z; omega
theorem part_some {c : Nat} {sep p q : List Nat} (h : c ∉ p) (hl : (p ++ (c :: sep ++ q)).length ≤ 1000) : gPart (SX.S (p ++ (c :: sep ++ q))) (SX.S (c :: sep)) = some (.arg [.str (SX.S p), .str (SX.S (c :: sep)), .str (SX.S q)]) := by
  unfold gPart
  rw [SX.partition_some (List.cons_ne_nil _ _) (SX.par_head q h), SX.S_len, SX.S_len, if_pos ⟨by simp, line_pos (by omega)⟩]
theorem part_none {c : Nat} {sep a : List Nat} (h : TL.par (c :: sep) [] a = none) (hl : a.length ≤ 1000) : gPart (SX.S a) (SX.S (c :: sep)) = some (.arg [.str (SX.S a), .str (SX.S []), .str (SX.S [])]) := by
  unfold gPart
  rw [SX.partition_none (List.cons_ne_nil _ _) h, SX.S_len, SX.S_len, if_pos ⟨by simp, line_pos (by omega)⟩]
theorem sl_init {q : List Nat} {c : Nat} (h : (q ++ [c]).length ≤ 100000) : sliceD (.str (SX.S (q ++ [c]))) none (some (-1)) = some (.str (SX.S q)) := by
  have e2 : HT.sIx (SX.S (q ++ [c])).length (SX.S (q ++ [c])).length (some (-1)) = q.length := by
    unfold HT.sIx
    dsimp only
    rw [if_pos (by decide), SX.S_len, List.length_append, List.length_singleton]
    omega
  rw [sliceS, if_pos (line_pos (by rw [SX.S_len]; omega))]
  unfold L2.cutS
  rw [e2, HT.sIx_none]
  congr 4
  show ((q ++ [c]).drop 0).take (q.length - 0) = q
  rw [List.drop_zero, Nat.sub_zero, List.take_left]
@[simp] theorem l_emp : Str.ofString "" = SX.S [] := rfl
theorem ne_emp : gNe [.str (SX.S []), .str (SX.S [])] = some (.bl false) := okB_eq (by decide +kernel)
theorem ne_some {c : Nat} {l : List Nat} (hl : (c :: l).length ≤ 1000) (ha : asc (c :: l)) : gNe [.str (SX.S (c :: l)), .str (SX.S [])] = some (.bl true) := by
  have e := eq_SS hl ha (b := []) (by simp) asc_nil
  rw [decide_eq_false (by simp)] at e
  show (eqD _ _).map _ = _
  rw [e]
  rfl
section
variable {t wl X Z : List Nat} {w : Str} {d : D} {x1 x2 x3 x4 x5 x6 : Option D}
theorem dots (hw : D.str w = .str (SX.S wl)) (lw : wl.length ≤ 10) : gAdd [.str (SX.S [46]), .str w] = some (.str (SX.S (46 :: wl))) ∧ gAdd [.str (SX.S (46 :: wl)), .str (SX.S [40])] = some (.str (SX.S (46 :: (wl ++ [40])))) := by
  rw [hw]
  exact ⟨add_S (a := [46]) (by simp; omega), add_S (a := 46 :: wl) (by simp; omega)⟩
theorem rl0_no (hw : D.str w = .str (SX.S wl)) (lw : wl.length ≤ 10) (lt : t.length ≤ 1000) (hp : TL.par (46 :: (wl ++ [40])) [] t = none) :
    t0_read_line [.fro (.str (SX.S t)), .fro (.str w), pl x2, pl x3, pl x4, pl x5, pl x6] = .ok .nx [.fro (.str (SX.S t)), .fro (.str w), .fro (.str (SX.S t)), pl x3, .fro (.str (SX.S [])), pl x5, .fro (.str (SX.S []))] := by
  obtain ⟨d1, d2⟩ := dots hw lw
  have gp := part_none hp lt
  have ne := ne_emp
  unfold t0_read_line
  simp [-ev_gSet, gSet_soft, d1, d2, gp, ne]
theorem rl0_hit (hw : D.str w = .str (SX.S wl)) (lw : wl.length ≤ 10) (aw : asc wl) (hX : 46 ∉ X) (lX : X.length ≤ 8) (lZ : Z.length ≤ 500) (rd : m_read 40 [.str (SX.S Z), .int 1] = .ok d []) :
    t0_read_line [.fro (.str (SX.S (X ++ 46 :: (wl ++ 40 :: (Z ++ [41]))))), .fro (.str w), pl x2, pl x3, pl x4, pl x5, pl x6] =
      .ok (.rt (.tup [.str (SX.S X), .str w, d])) [.fro (.str (SX.S (X ++ 46 :: (wl ++ 40 :: (Z ++ [41]))))), .fro (.str w), .fro (.str (SX.S X)), pl x3, .fro (.str (SX.S (Z ++ [41]))), pl x5, .fro (.str (SX.S (46 :: (wl ++ [40]))))] := by
  obtain ⟨d1, d2⟩ := dots hw lw
  have et : X ++ 46 :: (wl ++ 40 :: (Z ++ [41])) = X ++ (46 :: (wl ++ [40]) ++ (Z ++ [41])) := by simp
  have gp := part_some (c := 46) (sep := wl ++ [40]) (p := X) (q := Z ++ [41]) hX (by simp; omega)
  rw [← et] at gp
  have ne := ne_some (c := 46) (l := wl ++ [40]) (by simp; omega) (by simp only [asc_cons, asc_app]; exact ⟨by decide, aw, by decide, asc_nil⟩)
  have er := ends_rp Z
  have sl := sl_init (q := Z) (c := 41) (by simp; omega)
  have gn : gNeg [.int 1] = some (.int (-1)) := rfl
  have line3 : (3 : Nat) ≤ sizeLine := line_pos (by decide)
  generalize X ++ 46 :: (wl ++ 40 :: (Z ++ [41])) = T at *
  generalize wl ++ [40] = W at *
  generalize Z ++ [41] = Y at *
  unfold t0_read_line
  simp [-ev_gSet, gSet_soft, d1, d2, gp, ne, gEnds, er, gn, sl, rd, line3, D.truth]
theorem marks (c : Nat) : gAdd [.str (SX.S [32]), .str (SX.S [c])] = some (.str (SX.S [32, c])) ∧ gAdd [.str (SX.S [32, c]), .str (SX.S [61, 32])] = some (.str (SX.S [32, c, 61, 32])) := ⟨add_S (a := [32]) (b := [c]) (by simp), add_S (a := [32, c]) (b := [61, 32]) (by simp)⟩
theorem rl1_no {c : Nat} (lt : t.length ≤ 1000) (hp : TL.par [32, c, 61, 32] [] t = none) :
    t1_read_line [.fro (.str (SX.S t)), .fro (.str w), pl x2, pl x3, pl x4, .fro (.str (SX.S [c])), pl x6] = .ok .nx [.fro (.str (SX.S t)), .fro (.str w), .fro (.str (SX.S t)), .fro (.str (SX.S [])), .fro (.str (SX.S [])), .fro (.str (SX.S [c])), pl x6] := by
  obtain ⟨d1, d2⟩ := marks c
  have gp := part_none hp lt
  have ne := ne_emp
  unfold t1_read_line
  simp [-ev_gSet, gSet_soft, d1, d2, gp, ne]
theorem rl1_hit {c : Nat} (hc : c < 128) (hX : 32 ∉ X) (lX : X.length ≤ 8) (lZ : Z.length ≤ 500) (rd : m_read 40 [.str (SX.S Z), .int 1] = .ok d []) :
    t1_read_line [.fro (.str (SX.S (X ++ 32 :: c :: 61 :: 32 :: Z))), .fro (.str w), pl x2, pl x3, pl x4, .fro (.str (SX.S [c])), pl x6] =
      .ok (.rt (.tup [.str (SX.S X), .str w, d])) [.fro (.str (SX.S (X ++ 32 :: c :: 61 :: 32 :: Z))), .fro (.str w), .fro (.str (SX.S X)), .fro (.str (SX.S [32, c, 61, 32])), .fro (.str (SX.S Z)), .fro (.str (SX.S [c])), pl x6] := by
  obtain ⟨d1, d2⟩ := marks c
  have gp := part_some (c := 32) (sep := [c, 61, 32]) (p := X) (q := Z) hX (by simp; omega)
  have gp : gPart (SX.S (X ++ 32 :: c :: 61 :: 32 :: Z)) (SX.S [32, c, 61, 32]) = some (.arg [.str (SX.S X), .str (SX.S [32, c, 61, 32]), .str (SX.S Z)]) := gp
  have ne := ne_some (c := 32) (l := [c, 61, 32]) (by simp) (by simp only [asc_cons]; exact ⟨by decide, hc, by decide, by decide, asc_nil⟩)
  have line3 : (3 : Nat) ≤ sizeLine := line_pos (by decide)
  generalize X ++ 32 :: c :: 61 :: 32 :: Z = T at *
  unfold t1_read_line
  simp [-ev_gSet, gSet_soft, d1, d2, gp, ne, rd, line3]
def GM : SG := gTup' 2 (gC (gSet 1) (gC (gSet 5) gN))
theorem gm_ok {p : Str × Nat} {c0 : Cell} : GM (prS p) [c0, pl x1, pl x2, pl x3, pl x4, pl x5, pl x6] = .ok () [c0, .fro (.str p.1), pl x2, pl x3, pl x4, .fro (.str (SX.S [p.2])), pl x6] := by
  unfold GM prS
  simp [-ev_gSet, gSet_soft]
end
theorem rl1_none {t : List Nat} (lt : t.length ≤ 1000) : ∀ (L : List (Str × Nat)) {x1 x2 x3 x4 x5 x6 : Option D}, (∀ p ∈ L, TL.par [32, p.2, 61, 32] [] t = none) → ∃ y1 y2 y3 y4 y5, forGo GM t1_read_line (L.map prS) [.fro (.str (SX.S t)), pl x1, pl x2, pl x3, pl x4, pl x5, pl x6] = .ok .nx [.fro (.str (SX.S t)), pl y1, pl y2, pl y3, pl y4, pl y5, pl x6]
  | [], x1, x2, x3, x4, x5, x6, _ => ⟨x1, x2, x3, x4, x5, rfl⟩
  | p :: L, x1, x2, x3, x4, x5, x6, h => by
    obtain ⟨y1, y2, y3, y4, y5, e⟩ := rl1_none lt L (x1 := some (.str p.1)) (x2 := some (.str (SX.S t))) (x3 := some (.str (SX.S []))) (x4 := some (.str (SX.S []))) (x5 := some (.str (SX.S [p.2]))) (x6 := x6) fun q hq => h q (.tail _ hq)
    refine ⟨y1, y2, y3, y4, y5, ?_⟩
    rw [List.map_cons, forGo, gm_ok, R.bind_ok, rl1_no lt (h p (.head _)), R.bind_ok]
    exact e
theorem rl1_found {X Z : List Nat} {w0 : Str} {c : Nat} {d : D} {L2 : List (Str × Nat)} (hc : c < 128) (hX : 32 ∉ X) (lX : X.length ≤ 8) (lZ : Z.length ≤ 500) (rd : m_read 40 [.str (SX.S Z), .int 1] = .ok d []) : ∀ (L : List (Str × Nat)) {x1 x2 x3 x4 x5 x6 : Option D}, (∀ p ∈ L, TL.par [32, p.2, 61, 32] [] (X ++ 32 :: c :: 61 :: 32 :: Z) = none) →
    ∃ ρ', forGo GM t1_read_line ((L ++ (w0, c) :: L2).map prS) [.fro (.str (SX.S (X ++ 32 :: c :: 61 :: 32 :: Z))), pl x1, pl x2, pl x3, pl x4, pl x5, pl x6] = .ok (.rt (.tup [.str (SX.S X), .str w0, d])) ρ'
  | [], x1, x2, x3, x4, x5, x6, _ => by
    have h := rl1_hit (w := w0) (x2 := x2) (x3 := x3) (x4 := x4) (x6 := x6) hc hX lX lZ rd
    refine ⟨[.fro (.str (SX.S (X ++ 32 :: c :: 61 :: 32 :: Z))), .fro (.str w0), .fro (.str (SX.S X)), .fro (.str (SX.S [32, c, 61, 32])), .fro (.str (SX.S Z)), .fro (.str (SX.S [c])), pl x6], ?_⟩
    rw [List.nil_append, List.map_cons, forGo, gm_ok, R.bind_ok, h, R.bind_ok]
  | p :: L, x1, x2, x3, x4, x5, x6, h => by
    have lt : (X ++ 32 :: c :: 61 :: 32 :: Z).length ≤ 1000 := by simp; omega
    obtain ⟨ρ', e⟩ := rl1_found hc hX lX lZ rd L (x1 := some (.str p.1)) (x2 := some (.str (SX.S (X ++ 32 :: c :: 61 :: 32 :: Z)))) (x3 := some (.str (SX.S []))) (x4 := some (.str (SX.S []))) (x5 := some (.str (SX.S [p.2]))) (x6 := x6) fun q hq => h q (.tail _ hq)
    refine ⟨ρ', ?_⟩
    rw [List.cons_append, List.map_cons, forGo, gm_ok, R.bind_ok, rl1_no lt (h p (.head _)), R.bind_ok]
    exact e
end Lw

/-! read_line, of a step's line. -/
namespace Dt
open PySem
theorem for_nx {g : SG} {s : SS} {d : D} {ds : List D} {ρ ρ1 ρ2 : Env} (h1 : g d ρ = .ok () ρ1) (h2 : s ρ1 = .ok .nx ρ2) : forGo g s (d :: ds) ρ = forGo g s ds ρ2 := by
  rw [forGo, h1, R.bind_ok, h2, R.bind_ok]
theorem for_rt {g : SG} {s : SS} {d v : D} {ds : List D} {ρ ρ1 ρ2 : Env} (h1 : g d ρ = .ok () ρ1) (h2 : s ρ1 = .ok (.rt v) ρ2) : forGo g s (d :: ds) ρ = .ok (.rt v) ρ2 := by
  rw [forGo, h1, R.bind_ok, h2, R.bind_ok]
end Dt
namespace Lw
open Dt PySem
theorem asc_ups : asc upsL ∧ asc sbtL := by unfold asc; decide
theorem rl0_calls {t : List Nat} (lt : t.length ≤ 1000) (h : 46 ∉ t) : l0_read_line [.fro (.str (SX.S t)), .no, .no, .no, .no, .no, .no] = .ok .nx [.fro (.str (SX.S t)), .fro (.str "subtract"), .fro (.str (SX.S t)), .no, .fro (.str (SX.S [])), .no, .fro (.str (SX.S []))] := by
  have a := rl0_no (x2 := none) (x3 := none) (x4 := none) (x5 := none) (x6 := none) w_ups (by decide) lt (SX.par_head_none h)
  have b := rl0_no (x2 := some (.str (SX.S t))) (x3 := none) (x4 := some (.str (SX.S []))) (x5 := none) (x6 := some (.str (SX.S []))) w_sbt (by decide) lt (SX.par_head_none h)
  unfold l0_read_line sFor
  simp only [ev_iAny, ev_cst, R.bind_ok, it_calls, ev_ofS]
  refine (for_nx (ρ1 := [.fro (.str (SX.S t)), .fro (.str "update"), .no, .no, .no, .no, .no]) (by rw [gSet_soft (by simp)]; rfl) a).trans ?_
  refine (for_nx (ρ1 := [.fro (.str (SX.S t)), .fro (.str "subtract"), .fro (.str (SX.S t)), .no, .fro (.str (SX.S [])), .no, .fro (.str (SX.S []))]) (by rw [gSet_soft (by simp)]; rfl) b).trans ?_
  rfl
section
variable {X Z : List Nat} {d : D}
theorem rline_set (hX : 32 ∉ X) (h46 : 46 ∉ X ∧ 46 ∉ Z) (lX : X.length ≤ 8) (lZ : Z.length ≤ 500) (rd : m_read 40 [.str (SX.S Z), .int 1] = .ok d []) : m_read_line [.str (SX.S (X ++ 32 :: 61 :: 32 :: Z))] = .ok (.tup [.str (SX.S X), .str "set", d]) [] := by
  have lt : (X ++ 32 :: 61 :: 32 :: Z).length ≤ 1000 := by simp; omega
  have l0 := rl0_calls lt (by simp; exact h46)
  have gp := part_some (c := 32) (sep := [61, 32]) (p := X) (q := Z) hX lt
  have gp : gPart (SX.S (X ++ 32 :: 61 :: 32 :: Z)) (SX.S [32, 61, 32]) = some (.arg [.str (SX.S X), .str (SX.S [32, 61, 32]), .str (SX.S Z)]) := gp
  have ne := ne_some (c := 32) (l := [61, 32]) (by simp) (by unfold asc; decide)
  have line3 : (3 : Nat) ≤ sizeLine := line_pos (by decide)
  generalize X ++ 32 :: 61 :: 32 :: Z = T at *
  show runP 7 1 b_read_line _ = _
  unfold runP b_read_line
  simp [l0, gp, ne, rd, line3]
theorem last_two {α : Type} {u X : List α} {a b : α} (h : u ++ [a] = X ++ [b]) : a = b := by
  have := congrArg List.getLast? h
  simpa using this
theorem rline_mark {w : Way} (hw : isCall w = false) (hX : 32 ∉ X) (h61 : 61 ∉ X ∧ 61 ∉ Z) (h46 : 46 ∉ X ∧ 46 ∉ Z) (lX : X.length ≤ 8) (lZ : Z.length ≤ 500) (rd : m_read 40 [.str (SX.S Z), .int 1] = .ok d []) : m_read_line [.str (SX.S (X ++ 32 :: sgW w :: 61 :: 32 :: Z))] = .ok (.tup [.str (SX.S X), .str w.nm, d]) [] := by
  have hc : sgW w = 43 ∨ sgW w = 45 ∨ sgW w = 124 ∨ sgW w = 38 := by cases w <;> first | (cases hw; done) | (unfold sgW; decide)
  have lt : (X ++ 32 :: sgW w :: 61 :: 32 :: Z).length ≤ 1000 := by simp; omega
  have l0 := rl0_calls lt (by simp; exact ⟨h46.1, by omega, h46.2⟩)
  have et : X ++ 32 :: sgW w :: 61 :: 32 :: Z = (X ++ [32] ++ [sgW w]) ++ 61 :: 32 :: Z := by simp
  have n61 : 61 ∉ X ++ [32] ++ [sgW w] := by simp; exact ⟨h61.1, by omega⟩
  have p0 : TL.par [32, 61, 32] [] (X ++ 32 :: sgW w :: 61 :: 32 :: Z) = none := par_no fun u v e => by
    have e2 : u ++ ([32, 61, 32] ++ v) = (u ++ [32]) ++ 61 :: 32 :: v := by simp
    rw [et, e2] at e
    obtain ⟨h, _⟩ := uniq_split e n61 (by simp; exact h61.2)
    have := last_two h
    omega
  have pm : ∀ c, sgW w ≠ c → TL.par [32, c, 61, 32] [] (X ++ 32 :: sgW w :: 61 :: 32 :: Z) = none := fun c hne => par_no fun u v e => by
    have e2 : u ++ ([32, c, 61, 32] ++ v) = (u ++ [32] ++ [c]) ++ 61 :: 32 :: v := by simp
    rw [et, e2] at e
    obtain ⟨h, _⟩ := uniq_split e n61 (by simp; exact h61.2)
    exact hne (last_two h).symm
  have gp := part_none (c := 32) (sep := [61, 32]) p0 lt
  have ne := ne_emp
  have fin : ∀ (L1 L2 : List (Str × Nat)), sgP = L1 ++ (w.nm, sgW w) :: L2 → (∀ p ∈ L1, sgW w ≠ p.2) → m_read_line [.str (SX.S (X ++ 32 :: sgW w :: 61 :: 32 :: Z))] = .ok (.tup [.str (SX.S X), .str w.nm, d]) [] := fun L1 L2 hL hp => by
    obtain ⟨ρ', e⟩ := rl1_found (L2 := L2) (w0 := w.nm) (sg_lt w) hX lX lZ rd L1 (x1 := some (.str "subtract")) (x2 := some (.str (SX.S (X ++ 32 :: sgW w :: 61 :: 32 :: Z)))) (x3 := some (.str (SX.S []))) (x4 := some (.str (SX.S []))) (x5 := none) (x6 := some (.str (SX.S []))) fun p q => pm p.2 (hp p q)
    rw [← hL] at e
    generalize X ++ 32 :: sgW w :: 61 :: 32 :: Z = T at *
    have l1 : l1_read_line [.fro (.str (SX.S T)), .fro (.str "subtract"), .fro (.str (SX.S T)), .fro (.str (SX.S [])), .fro (.str (SX.S [])), .no, .fro (.str (SX.S []))] = .ok (.rt (.tup [.str (SX.S X), .str w.nm, d])) ρ' := by
      unfold l1_read_line sFor
      simp only [ev_iAny, ev_cst, R.bind_ok, it_signs, ev_ofS]
      exact e
    show runP 7 1 b_read_line _ = _
    unfold runP b_read_line
    simp [l0, gp, ne, l1]
  cases w with
  | add => exact fin [] _ rfl (by simp)
  | less => exact fin [("add", 43)] _ rfl (by simp [sgW])
  | most => exact fin [("add", 43), ("less", 45)] _ rfl (by simp [sgW])
  | least => exact fin [("add", 43), ("less", 45), ("most", 124)] _ rfl (by simp [sgW])
  | _ => cases hw
theorem rline_ups (h46 : 46 ∉ X) (lX : X.length ≤ 8) (lZ : Z.length ≤ 500) (rd : m_read 40 [.str (SX.S Z), .int 1] = .ok d []) : m_read_line [.str (SX.S (X ++ 46 :: (upsL ++ 40 :: (Z ++ [41]))))] = .ok (.tup [.str (SX.S X), .str "update", d]) [] := by
  have a := rl0_hit (x2 := none) (x3 := none) (x4 := none) (x5 := none) (x6 := none) w_ups (by decide) asc_ups.1 h46 lX lZ rd
  have l0 : ∃ ρ', l0_read_line [.fro (.str (SX.S (X ++ 46 :: (upsL ++ 40 :: (Z ++ [41]))))), .no, .no, .no, .no, .no, .no] = .ok (.rt (.tup [.str (SX.S X), .str "update", d])) ρ' := by
    refine ⟨[.fro (.str (SX.S (X ++ 46 :: (upsL ++ 40 :: (Z ++ [41]))))), .fro (.str "update"), .fro (.str (SX.S X)), .no, .fro (.str (SX.S (Z ++ [41]))), .no, .fro (.str (SX.S (46 :: (upsL ++ [40]))))], ?_⟩
    unfold l0_read_line sFor
    simp only [ev_iAny, ev_cst, R.bind_ok, it_calls, ev_ofS]
    exact for_rt (ρ1 := [.fro (.str (SX.S (X ++ 46 :: (upsL ++ 40 :: (Z ++ [41]))))), .fro (.str "update"), .no, .no, .no, .no, .no]) (by rw [gSet_soft (by simp)]; rfl) a
  obtain ⟨ρ', l0⟩ := l0
  generalize X ++ 46 :: (upsL ++ 40 :: (Z ++ [41])) = T at *
  show runP 7 1 b_read_line _ = _
  unfold runP b_read_line
  simp [l0]
theorem rline_sbt (h46 : 46 ∉ X ∧ 46 ∉ Z) (lX : X.length ≤ 8) (lZ : Z.length ≤ 500) (rd : m_read 40 [.str (SX.S Z), .int 1] = .ok d []) : m_read_line [.str (SX.S (X ++ 46 :: (sbtL ++ 40 :: (Z ++ [41]))))] = .ok (.tup [.str (SX.S X), .str "subtract", d]) [] := by
  have lt : (X ++ 46 :: (sbtL ++ 40 :: (Z ++ [41]))).length ≤ 1000 := by simp [sbtL]; omega
  have pn : TL.par (46 :: (upsL ++ [40])) [] (X ++ 46 :: (sbtL ++ 40 :: (Z ++ [41]))) = none := par_no fun u v e => by
    have e2 : u ++ (46 :: (upsL ++ [40]) ++ v) = u ++ 46 :: (upsL ++ [40] ++ v) := by simp
    rw [e2] at e
    obtain ⟨_, h⟩ := uniq_split e h46.1 (by simp [sbtL]; exact h46.2)
    unfold upsL sbtL at h
    injection h with h _
    cases h
  have a := rl0_no (x2 := none) (x3 := none) (x4 := none) (x5 := none) (x6 := none) w_ups (by decide) lt pn
  have b := rl0_hit (x2 := some (.str (SX.S (X ++ 46 :: (sbtL ++ 40 :: (Z ++ [41])))))) (x3 := none) (x4 := some (.str (SX.S []))) (x5 := none) (x6 := some (.str (SX.S []))) w_sbt (by decide) asc_ups.2 h46.1 lX lZ rd
  have l0 : ∃ ρ', l0_read_line [.fro (.str (SX.S (X ++ 46 :: (sbtL ++ 40 :: (Z ++ [41]))))), .no, .no, .no, .no, .no, .no] = .ok (.rt (.tup [.str (SX.S X), .str "subtract", d])) ρ' := by
    refine ⟨[.fro (.str (SX.S (X ++ 46 :: (sbtL ++ 40 :: (Z ++ [41]))))), .fro (.str "subtract"), .fro (.str (SX.S X)), .no, .fro (.str (SX.S (Z ++ [41]))), .no, .fro (.str (SX.S (46 :: (sbtL ++ [40]))))], ?_⟩
    generalize hT : X ++ 46 :: (sbtL ++ 40 :: (Z ++ [41])) = T at *
    unfold l0_read_line sFor
    simp only [ev_iAny, ev_cst, R.bind_ok, it_calls, ev_ofS]
    refine (for_nx (ρ1 := [.fro (.str (SX.S T)), .fro (.str "update"), .no, .no, .no, .no, .no]) (by rw [gSet_soft (by simp)]; rfl) a).trans ?_
    exact for_rt (ρ1 := [.fro (.str (SX.S T)), .fro (.str "subtract"), .fro (.str (SX.S T)), .no, .fro (.str (SX.S [])), .no, .fro (.str (SX.S []))]) (by rw [gSet_soft (by simp)]; rfl) b
  obtain ⟨ρ', l0⟩ := l0
  generalize X ++ 46 :: (sbtL ++ 40 :: (Z ++ [41])) = T at *
  show runP 7 1 b_read_line _ = _
  unfold runP b_read_line
  simp [l0]
end
theorem read_line_ok {s : Sp} (hx : NmOk s.1) (he : s.2.2.all NmOk) (hs : s.2.2.size ≤ 12) : m_read_line [.str (SX.S (stx s))] = .ok (stD s) [] := by
  obtain ⟨x, o, e⟩ := s
  simp only at hx he hs
  have lx := xl hx
  have le := tx_len' (e := e) he
  have ds := e.deep_size
  have rd : m_read 40 [.str (SX.S (tx e)), .int 1] = .ok (exD e) [] := read_ok e 40 1 (by omega) (by omega) he (by omega)
  obtain ⟨n61, n46, _⟩ := tx_no he
  have x61 := nm_no hx (c := 61) (by decide)
  have x46 := nm_no hx (c := 46) (by decide)
  have x32 := nm_no hx (c := 32) (by decide)
  have sx : stD (x, o, e) = .tup [.str (SX.S x.cps.toList), .str (wayN o), exD e] := by rw [SX.S_tl]; rfl
  rw [sx]
  cases o with
  | none => exact rline_set (Z := tx e) x32 ⟨x46, n46⟩ lx (by omega) rd
  | some w =>
    cases w with
    | update => exact rline_ups (Z := tx e) x46 lx (by omega) rd
    | subtract => exact rline_sbt (Z := tx e) ⟨x46, n46⟩ lx (by omega) rd
    | add => exact rline_mark (Z := tx e) (w := .add) rfl x32 ⟨x61, n61⟩ ⟨x46, n46⟩ lx (by omega) rd
    | less => exact rline_mark (Z := tx e) (w := .less) rfl x32 ⟨x61, n61⟩ ⟨x46, n46⟩ lx (by omega) rd
    | most => exact rline_mark (Z := tx e) (w := .most) rfl x32 ⟨x61, n61⟩ ⟨x46, n46⟩ lx (by omega) rd
    | least => exact rline_mark (Z := tx e) (w := .least) rfl x32 ⟨x61, n61⟩ ⟨x46, n46⟩ lx (by omega) rd
end Lw

/-! Both texts, both readings. -/
namespace Dt
open PySem
/-- a script's text -/
def sxt (c : Sc) : List Nat := TL.joinL [10] (c.map stx)
end Dt
namespace Lw
open Dt PySem
theorem txts_S : ∀ ys : List (List Nat), txtsD (ys.map fun l => D.str (SX.S l)) = some (ys.map SX.S)
  | [] => rfl
  | y :: ys => by
    rw [List.map_cons, List.map_cons, txtsD, txts_S ys]
    rfl
theorem join_ok {ys : List (List Nat)} (h : (ys.map List.length).sum + ys.length ≤ 100000) : joinG (SX.S [10]) (.lst (ys.map fun l => .str (SX.S l))) = some (.str (SX.S (TL.joinL [10] ys))) := by
  unfold joinG
  simp only
  rw [txts_S, Option.bind_some, SX.lens, List.length_map, SX.S_len, List.length_singleton, Nat.mul_one, if_pos (Nat.le_trans h (by decide)), SX.join_S]
theorem joinL_len : ∀ ys : List (List Nat), (TL.joinL [10] ys).length ≤ (ys.map List.length).sum + ys.length
  | [] => Nat.zero_le _
  | [y] => by simp [TL.joinL]
  | y :: z :: r => by
    have ih := joinL_len (z :: r)
    have e : TL.joinL [10] (y :: z :: r) = y ++ ([10] ++ TL.joinL [10] (z :: r)) := rfl
    rw [e, List.map_cons, List.sum_cons, List.length_cons]
    simp only [List.length_append, List.length_singleton]
    omega
theorem joinL_asc : ∀ {ys : List (List Nat)}, (∀ y ∈ ys, asc y) → asc (TL.joinL [10] ys)
  | [], _ => asc_nil
  | [y], h => h y (.head _)
  | y :: z :: r, h => by
    have ih := joinL_asc (ys := z :: r) fun q hq => h q (.tail _ hq)
    have e : TL.joinL [10] (y :: z :: r) = y ++ ([10] ++ TL.joinL [10] (z :: r)) := rfl
    rw [e]
    exact asc_app.mpr ⟨h y (.head _), asc_app.mpr ⟨by unfold asc; decide, ih⟩⟩
theorem stx_len {s : Sp} (hx : NmOk s.1) (he : s.2.2.all NmOk) : (stx s).length ≤ 20 + 12 * s.2.2.size := by
  have lx := xl hx
  have le := tx_len' he
  obtain ⟨x, o, e⟩ := s
  simp only at *
  unfold stx
  rw [List.length_append]
  match o with
  | none => simp only [List.length_cons]; omega
  | some .update => simp only [List.length_cons, List.length_append, List.length_nil, upsL]; omega
  | some .subtract => simp only [List.length_cons, List.length_append, List.length_nil, sbtL]; omega
  | some .add => simp only [List.length_cons]; omega
  | some .less => simp only [List.length_cons]; omega
  | some .most => simp only [List.length_cons]; omega
  | some .least => simp only [List.length_cons]; omega
theorem stx_all {P : Nat → Prop} (hl : ∀ c, 97 ≤ c → c ≤ 122 → P c) (ho : ∀ c ∈ [40, 41, 44, 32, 43, 45, 124, 38], P c) (h46 : P 46) (h61 : P 61) {s : Sp} (hx : NmOk s.1) (he : s.2.2.all NmOk) : ∀ c ∈ stx s, P c := fun c hc => by
  have it := tx_all hl ho _ he
  have ix : ∀ c ∈ s.1.cps.toList, P c := fun c hc => by have := low_nm hx c hc; exact hl c this.1 this.2
  have lu : ∀ c ∈ upsL, P c := fun c hc => by
    have : 97 ≤ c ∧ c ≤ 122 := (by decide : ∀ c ∈ upsL, 97 ≤ c ∧ c ≤ 122) c hc
    exact hl c this.1 this.2
  have ls : ∀ c ∈ sbtL, P c := fun c hc => by
    have : 97 ≤ c ∧ c ≤ 122 := (by decide : ∀ c ∈ sbtL, 97 ≤ c ∧ c ≤ 122) c hc
    exact hl c this.1 this.2
  obtain ⟨x, o, e⟩ := s
  simp only at *
  unfold stx at hc
  rcases List.mem_append.mp hc with hc | hc
  · exact ix c hc
  have o1 := ho 40 (by simp)
  have o2 := ho 41 (by simp)
  have o3 := ho 32 (by simp)
  match o, hc with
  | none, hc =>
    simp only [List.mem_cons] at hc
    rcases hc with rfl | rfl | rfl | hc
    · exact o3
    · exact h61
    · exact o3
    · exact it c hc
  | some .update, hc =>
    simp only [List.mem_cons, List.mem_append, List.not_mem_nil, or_false] at hc
    rcases hc with rfl | hc | rfl | hc | rfl
    · exact h46
    · exact lu c hc
    · exact o1
    · exact it c hc
    · exact o2
  | some .subtract, hc =>
    simp only [List.mem_cons, List.mem_append, List.not_mem_nil, or_false] at hc
    rcases hc with rfl | hc | rfl | hc | rfl
    · exact h46
    · exact ls c hc
    · exact o1
    · exact it c hc
    · exact o2
  | some .add, hc =>
    simp only [List.mem_cons] at hc
    rcases hc with rfl | rfl | rfl | rfl | hc
    · exact o3
    · exact ho _ (by simp [sgW])
    · exact h61
    · exact o3
    · exact it c hc
  | some .less, hc =>
    simp only [List.mem_cons] at hc
    rcases hc with rfl | rfl | rfl | rfl | hc
    · exact o3
    · exact ho _ (by simp [sgW])
    · exact h61
    · exact o3
    · exact it c hc
  | some .most, hc =>
    simp only [List.mem_cons] at hc
    rcases hc with rfl | rfl | rfl | rfl | hc
    · exact o3
    · exact ho _ (by simp [sgW])
    · exact h61
    · exact o3
    · exact it c hc
  | some .least, hc =>
    simp only [List.mem_cons] at hc
    rcases hc with rfl | rfl | rfl | rfl | hc
    · exact o3
    · exact ho _ (by simp [sgW])
    · exact h61
    · exact o3
    · exact it c hc
theorem stx_no {s : Sp} (h : SpOk s) : 10 ∉ stx s := fun z => stx_all (P := fun c => c ≠ 10) (fun c _ _ => by omega) (by decide) (by decide) (by decide) h.nm h.ex.nms 10 z rfl
theorem stx_asc {s : Sp} (h : SpOk s) : asc (stx s) := stx_all (P := fun c => c < 128) (fun c _ _ => by omega) (by decide) (by decide) (by decide) h.nm h.ex.nms
theorem stx_pos {s : Sp} (h : SpOk s) : stx s ≠ [] := fun e => by
  have := nm_ne h.nm
  unfold stx at e
  exact this (List.append_eq_nil_iff.mp e).1
theorem sxt_sum : ∀ {c : Sc}, (∀ s ∈ c, SpOk s) → ((c.map stx).map List.length).sum ≤ 20 * c.length + 12 * sizeS c
  | [], _ => Nat.le_refl _
  | s :: c, h => by
    have ih := sxt_sum (c := c) fun t ht => h t (.tail _ ht)
    have l := stx_len (h s (.head _)).nm (h s (.head _)).ex.nms
    have h3 : sizeS (s :: c) = s.2.2.size + sizeS c := by unfold sizeS; rw [List.map_cons, List.sum_cons]
    rw [List.map_cons, List.map_cons, List.sum_cons, List.length_cons, h3]
    omega
theorem sxt_len {c : Sc} (h : ScOk c) : (sxt c).length ≤ 400 ∧ ((c.map stx).map List.length).sum + (c.map stx).length ≤ 400 := by
  have l1 := joinL_len (c.map stx)
  have l2 := sxt_sum h.sp
  have := h.six
  have := h.few
  rw [List.length_map] at *
  unfold sxt
  omega
theorem sxt_asc {c : Sc} (h : ScOk c) : asc (sxt c) := joinL_asc fun y hy => by
  obtain ⟨s, hs, rfl⟩ := List.mem_map.mp hy
  exact stx_asc (h.sp s hs)
theorem spD_ok {s : Sp} (h : SpOk s) : Ok 100 14 (stD s) := by
  have a : Ok 100 13 (.str s.1) := (ok_str (m := 8) (n := 0).mpr h.nm.1).mono (by decide) (by decide)
  have e : Ok 100 13 (exD s.2.2) := (exD_ok (m := 8) (by decide) _ h.ex.nms).mono (by decide) (by have := s.2.2.deep_size; have := h.ex.few; omega)
  have w : Ok 100 13 (.str (wayN s.2.1)) := by
    cases s.2.1 with
    | none => exact str8 (by decide +kernel) (by decide)
    | some w => exact way8 w (by decide)
  exact tup_ok (by simp) (by simpa using ⟨a, w, e⟩)
theorem scD_ok {c : Sc} (h : ScOk c) : Ok 100 15 (scD c) := tup_ok (by rw [List.length_map]; have := h.six; omega) fun d hd => by
  obtain ⟨s, hs, rfl⟩ := List.mem_map.mp hd
  exact spD_ok (h.sp s hs)
theorem isc_true {c : Sc} (h : ScOk c) : m_is_script [scD c] = .ok (.bl true) [] := by
  have ok : ∀ d ∈ c.map stD, Ok 100 14 d := fun d hd => by
    obtain ⟨s, hs, rfl⟩ := List.mem_map.mp hd
    exact spD_ok (h.sp s hs)
  have ha : (c.map stD).all stepV = true := by
    rw [List.all_map, List.all_eq_true]
    exact fun s hs => stepV_yes (h.sp s hs)
  have c0 := sc_comp0 (m := 100) (n := 14) (by decide) (by decide) ok (by rw [List.length_map]; have := h.six; omega)
  rw [sc_yes h.sp h.six c0 ha]
  unfold scriptB
  rw [decide_eq_true h.few, decide_eq_true h.three]
  rfl
/-! ### expressions -/
theorem lookE {d : D} {b : Bool} (h : m_is_expression [d] = .ok (.bl b) []) : m_looked_expressions [.arg [d]] = if b = true then .ok .non [] else .exc ⟨"NoExpression", .non⟩ := by
  show runP 2 1 b_looked_expressions _ = _
  unfold runP b_looked_expressions l0_looked_expressions sFor
  cases b <;> simp [itemsD, forGo, t0_looked_expressions, h, D.truth]
theorem extext_ok {e : Ex} (h : ExOk e) : m_expression_text [exD e] = .ok (.str (SX.S (tx e))) [] := by
  have lk := lookE (exprB_yes h)
  have te := text_ok e 40 (by have := e.deep_size; have := h.few; omega) h.nms (by have := h.few; omega)
  show runP 1 1 b_expression_text _ = _
  unfold runP b_expression_text
  simp [lk, line1, te]
theorem exread_ok {e : Ex} (h : ExOk e) : m_read_expression [.str (SX.S (tx e))] = .ok (exD e) [] := by
  have hf := h.few
  have ds := e.deep_size
  have rd : m_read 40 [.str (SX.S (tx e)), .int 1] = .ok (exD e) [] := read_ok e 40 1 (by omega) (by omega) h.nms (by omega)
  have ie := exprB_yes h
  have te := text_ok e 40 (by omega) h.nms (by omega)
  have le := tx_len' h.nms
  have eq := eq_SS (a := tx e) (b := tx e) (by omega) (tx_asc e h.nms) (by omega) (tx_asc e h.nms)
  rw [decide_eq_true rfl] at eq
  have ne : gNe [.str (SX.S (tx e)), .str (SX.S (tx e))] = some (.bl false) := by show (eqD _ _).map _ = _; rw [eq]; rfl
  show runP 2 1 b_read_expression _ = _
  unfold runP b_read_expression
  simp [isT, isTn, tyN, rd, ie, te, ne, D.truth]
/-! ### scripts -/
theorem lookS {d : D} {b : Bool} (h : m_is_script [d] = .ok (.bl b) []) : m_looked_scripts [.arg [d]] = if b = true then .ok .non [] else .exc ⟨"NoScript", .non⟩ := by
  show runP 2 1 b_looked_scripts _ = _
  unfold runP b_looked_scripts l0_looked_scripts sFor
  cases b <;> simp [itemsD, forGo, t0_looked_scripts, h, D.truth]
theorem lines_map (c : Sc) : c.map (fun s => D.str (SX.S (stx s))) = (c.map stx).map fun l => D.str (SX.S l) := by rw [List.map_map]; rfl
theorem sctext_ok {c : Sc} (h : ScOk c) : m_script_text [scD c] = .ok (.str (SX.S (sxt c))) [] := by
  have lk := lookS (isc_true h)
  have e := comp1e (enc := stD) (i := 1) (ρ := [.fro (scD c), .no]) (xs := c) (s := sCallP 1 (m_line_of) (sCons (sVar 1) sNil)) (fun s => .str (SX.S (stx s))) rfl fun s hs => by
    simp [line_ok (h.sp s hs).nm (h.sp s hs).ex.nms (by have := (h.sp s hs).ex.few; omega)]
  rw [lines_map] at e
  have jn := join_ok (ys := c.map stx) (by have := (sxt_len h).2; omega)
  have hz : c.length ≤ sizeLine := line_pos (by have := h.six; omega)
  have it : itemsD (scD c) = some (c.map stD) := rfl
  show runP 2 1 b_script_text _ = _
  unfold runP b_script_text c0_script_text sComp
  unfold sxt
  generalize (c.map stx).map (fun l => D.str (SX.S l)) = Z at *
  simp [lk, line1, it, plain_cons, plain_nil, hz, wipeE, e, backE, jn]
theorem scread_ok {c : Sc} (h : ScOk c) : m_read_script [.str (SX.S (sxt c))] = .ok (scD c) [] := by
  have l4 := (sxt_len h).1
  have aa := sxt_asc h
  have ic := isc_true h
  have e := comp1e (enc := stD) (i := 3) (ρ := [.fro (.str (SX.S (sxt c))), .fro (scD c), .no, .no]) (xs := c) (s := sCallP 1 (m_line_of) (sCons (sVar 3) sNil)) (fun s => .str (SX.S (stx s))) rfl fun s hs => by
    simp [line_ok (h.sp s hs).nm (h.sp s hs).ex.nms (by have := (h.sp s hs).ex.few; omega)]
  rw [lines_map] at e
  have jn := join_ok (ys := c.map stx) (by have := (sxt_len h).2; omega)
  have jn : joinG (SX.S [10]) (.lst ((c.map stx).map fun l => .str (SX.S l))) = some (.str (SX.S (sxt c))) := jn
  have hz : c.length ≤ sizeLine := line_pos (by have := h.six; omega)
  have it : itemsD (scD c) = some (c.map stD) := rfl
  have eq := eq_SS (a := sxt c) (b := sxt c) (by omega) aa (by omega) aa
  rw [decide_eq_true rfl] at eq
  have ne : gNe [.str (SX.S (sxt c)), .str (SX.S (sxt c))] = some (.bl false) := by show (eqD _ _).map _ = _; rw [eq]; rfl
  have eq0 := eq_SS (a := sxt c) (b := []) (by omega) aa (by simp) asc_nil
  have eq0 : gEq [.str (SX.S (sxt c)), .str (SX.S [])] = some (.bl (decide (sxt c = []))) := by show (eqD _ _).map _ = _; rw [eq0]; rfl
  have found : (sIf (sTst (sOps gEq (b2 (sLoc 0) (sVal (sCst (.str "")))))) (sTup sNil) (sOps gTuple (bCons (sVal c0_read_script) bNil))) [.fro (.str (SX.S (sxt c))), .no, .no, .no] = .ok (scD c) [.fro (.str (SX.S (sxt c))), .no, .no, .no] := by
    by_cases hc : c = []
    · subst hc
      have eq0 : gEq [.str (SX.S (sxt [])), .str (SX.S [])] = some (.bl true) := eq0
      simp [eq0, scD]
    · have hne : sxt c ≠ [] := fun z => by
        cases c with
        | nil => exact hc rfl
        | cons s c =>
          have p := stx_pos (h.sp s (.head _))
          cases c with
          | nil => exact p z
          | cons r c =>
            have z : stx s ++ ([10] ++ TL.joinL [10] ((r :: c).map stx)) = [] := z
            exact p (List.append_eq_nil_iff.mp z).1
      rw [decide_eq_false hne] at eq0
      have sp : gSplit (SX.S (sxt c)) (SX.S [10]) = some (.lst (c.map fun s => .str (SX.S (stx s)))) := by
        unfold gSplit
        rw [SX.split_S (by simp) (by decide), SX.S_len, SX.S_len, if_pos ⟨by simp, line_pos (by omega)⟩]
        unfold sxt
        rw [SX.spl_join (by simpa using hc) (fun p hp => by
          obtain ⟨s, hs, rfl⟩ := List.mem_map.mp hp
          exact stx_no (h.sp s hs)), List.map_map, List.map_map]
        rfl
      have e2 := comp1e (enc := fun s : Sp => D.str (SX.S (stx s))) (i := 2) (ρ := [.fro (.str (SX.S (sxt c))), .no, .no, .no]) (xs := c) (s := sCallP 1 (m_read_line) (sCons (sVar 2) sNil)) stD rfl fun s hs => by
        simp [read_line_ok (h.sp s hs).nm (h.sp s hs).ex.nms (h.sp s hs).ex.few]
      have tp : gTuple [.lst (c.map stD)] = some (scD c) := rfl
      have it2 : itemsD (.lst (c.map fun s => .str (SX.S (stx s)))) = some (c.map fun s => .str (SX.S (stx s))) := rfl
      have hz2 : (c.map fun s => D.str (SX.S (stx s))).length ≤ sizeLine := by rw [List.length_map]; exact hz
      generalize c.map (fun s => D.str (SX.S (stx s))) = Y at *
      generalize c.map stD = Q at *
      unfold c0_read_script sComp
      simp [eq0, sp, it2, plain_cons, plain_nil, hz2, wipeE, e2, backE, tp]
  show runP 4 1 b_read_script _ = _
  unfold runP b_read_script c1_read_script sComp
  generalize (c.map stx).map (fun l => D.str (SX.S l)) = Z at *
  generalize hT : sxt c = T at *
  rw [l_emp] at found
  simp [isT, isTn, tyN, -ev_if, found, ic, it, plain_cons, plain_nil, hz, wipeE, e, backE, jn, ne, D.truth]
end Lw

/-! read, read_line, read_script on any text. -/
namespace Dt
open PySem
/-- a statement that goes on where I holds, or returns what Q holds of -/
def Out (I : Env → Prop) (Q : D → Prop) (r : R Fl) : Prop := ∃ f ρ', r = .ok f ρ' ∧ ((f = .nx ∧ I ρ') ∨ ∃ v, f = .rt v ∧ Q v)
theorem for_or {I : Env → Prop} {Q : D → Prop} {g : SG} {s : SS} : ∀ {ds : List D} {ρ : Env}, (∀ d ∈ ds, ∀ ρ, I ρ → ∃ ρ1, g d ρ = .ok () ρ1 ∧ Out I Q (s ρ1)) → I ρ → Out I Q (forGo g s ds ρ)
  | [], ρ, _, h => ⟨.nx, ρ, rfl, .inl ⟨rfl, h⟩⟩
  | d :: ds, ρ, hs, h => by
    obtain ⟨ρ1, e1, f, ρ2, e2, r⟩ := hs d (.head _) ρ h
    rcases r with ⟨rfl, r⟩ | ⟨v, rfl, r⟩
    · rw [for_nx e1 e2]
      exact for_or (fun d hd => hs d (.tail _ hd)) r
    · rw [for_rt e1 e2]
      exact ⟨_, _, rfl, .inr ⟨v, rfl, r⟩⟩
theorem par_mem {S : List Nat} : ∀ {l acc p q : List Nat}, TL.par S acc l = some (p, q) → (∀ x ∈ p, x ∈ acc ∨ x ∈ l) ∧ (∀ x ∈ q, x ∈ l) ∧ p.length ≤ acc.length + l.length ∧ q.length ≤ l.length
  | [], acc, p, q, h => by cases h
  | c :: r, acc, p, q, h => by
    cases e : TL.pre S (c :: r) with
    | true =>
      rw [TL.par_hit e] at h
      injection h with h
      injection h with h1 h2
      subst h1
      subst h2
      exact ⟨fun x hx => .inl hx, fun x hx => List.mem_of_mem_drop hx, by omega, by rw [List.length_drop]; omega⟩
    | false =>
      rw [TL.par_miss e] at h
      obtain ⟨a, b, c', d⟩ := par_mem h
      refine ⟨fun x hx => ?_, fun x hx => .tail _ (b x hx), ?_, ?_⟩
      · rcases a x hx with z | z
        · rcases List.mem_append.mp z with z | z
          · exact .inl z
          · exact .inr (by rw [List.mem_singleton.mp z]; exact .head _)
        · exact .inr (.tail _ z)
      · rw [List.length_append, List.length_singleton] at c'; rw [List.length_cons]; omega
      · rw [List.length_cons]; omega
theorem spl_mem {S : List Nat} : ∀ (l : List Nat) (k : Nat) (acc : List Nat), (∀ y ∈ TL.spl S k acc l, (∀ x ∈ y, x ∈ acc ∨ x ∈ l) ∧ y.length ≤ acc.length + l.length) ∧ (TL.spl S k acc l).length ≤ l.length + 1
  | [], k, acc => by
    rw [TL.spl_nil]
    refine ⟨fun y hy => ?_, Nat.le_refl _⟩
    rw [List.mem_singleton.mp hy]
    exact ⟨fun x hx => .inl hx, Nat.le_refl _⟩
  | c :: r, 0, acc => by
    cases e : TL.pre S (c :: r) with
    | true =>
      rw [TL.spl_hit e]
      obtain ⟨a, b⟩ := spl_mem (S := S) r (S.length - 1) []
      refine ⟨fun y hy => ?_, by rw [List.length_cons, List.length_cons]; omega⟩
      rcases List.mem_cons.mp hy with rfl | hy
      · exact ⟨fun x hx => .inl hx, Nat.le_add_right _ _⟩
      · obtain ⟨a1, a2⟩ := a y hy
        refine ⟨fun x hx => (a1 x hx).elim (fun z => nomatch z) fun z => .inr (.tail _ z), ?_⟩
        rw [List.length_nil] at a2
        rw [List.length_cons]
        omega
    | false =>
      rw [TL.spl_miss e]
      obtain ⟨a, b⟩ := spl_mem (S := S) r 0 (acc ++ [c])
      refine ⟨fun y hy => ?_, by rw [List.length_cons]; omega⟩
      obtain ⟨a1, a2⟩ := a y hy
      refine ⟨fun x hx => ?_, ?_⟩
      · rcases a1 x hx with z | z
        · rcases List.mem_append.mp z with z | z
          · exact .inl z
          · exact .inr (by rw [List.mem_singleton.mp z]; exact .head _)
        · exact .inr (.tail _ z)
      · rw [List.length_append, List.length_singleton] at a2
        rw [List.length_cons]
        omega
  | c :: r, k + 1, acc => by
    obtain ⟨a, b⟩ := spl_mem (S := S) r k acc
    have e : TL.spl S (k + 1) acc (c :: r) = TL.spl S k acc r := rfl
    rw [e]
    refine ⟨fun y hy => ?_, by rw [List.length_cons]; omega⟩
    obtain ⟨a1, a2⟩ := a y hy
    exact ⟨fun x hx => (a1 x hx).imp id (.tail _), by rw [List.length_cons]; omega⟩
end Dt
namespace Lw
open Dt PySem
structure TOk (l : List Nat) : Prop where
  len : l.length ≤ 900
  as : asc l
theorem TOk.sub {l m : List Nat} (h : TOk l) (h1 : m.length ≤ l.length) (h2 : ∀ c ∈ m, c ∈ l) : TOk m := ⟨Nat.le_trans h1 h.len, fun c hc => h.as c (h2 c hc)⟩
theorem TOk.ok {l : List Nat} {n : Nat} (h : TOk l) : Ok 1000 n (.str (SX.S l)) := ok_S (by have := h.len; omega) h.as
theorem tok_nil : TOk [] := ⟨by decide, asc_nil⟩
theorem sl_any {T : List Nat} (h : TOk T) (lo hi : Option Int) : ∃ T', sliceD (.str (SX.S T)) lo hi = some (.str (SX.S T')) ∧ T'.length ≤ T.length ∧ TOk T' := by
  have key : ∀ a b : Nat, ((T.drop a).take b).length ≤ T.length ∧ TOk ((T.drop a).take b) := fun a b => by
    have hl : ((T.drop a).take b).length ≤ T.length := by rw [List.length_take, List.length_drop]; omega
    exact ⟨hl, h.sub hl fun c hc => List.mem_of_mem_drop (List.mem_of_mem_take hc)⟩
  refine ⟨(T.drop (HT.sIx (SX.S T).length 0 lo)).take (HT.sIx (SX.S T).length (SX.S T).length hi - HT.sIx (SX.S T).length 0 lo), ?_, key _ _⟩
  rw [sliceS, if_pos (line_pos (by rw [SX.S_len]; have := h.len; omega))]
  rfl
theorem parted_any {I sg : List Nat} (h : TOk I) (hs : asc sg) (ls : sg.length ≤ 10) : ∃ is : List Nat, m_parted [.str (SX.S I), .str (SX.S sg)] = .ok (.lst (is.map fun i => .int (i : Nat))) [] := ⟨_, parted_ok h.as (by have := h.len; omega) hs ls⟩
theorem len_any (is : List Nat) : gLen [.lst (is.map fun i => .int (i : Nat))] = some (.int (is.length : Nat)) := by
  show some (D.int ((is.map fun i => D.int (i : Nat)).length : Nat)) = _
  rw [List.length_map]
theorem len_str {l : List Nat} (h : l.length ≤ 1000) : gLen [.str (SX.S l)] = some (.int (l.length : Nat)) := by
  show (if (SX.S l).length ≤ sizeLine then some (D.int ((SX.S l).length : Nat)) else none) = _
  rw [SX.S_len, if_pos (line_pos (by omega))]
theorem eq_one (n : Nat) : gEq [.int (n : Int), .int 1] = some (.bl (decide (n = 1))) := by
  by_cases h : n = 1
  · subst h; simp [gEq]
  · have : ((n : Int) == 1) = false := beq_eq_false_iff_ne.mpr (by omega)
    simp [gEq, this, h]
theorem ad_int (i j : Int) : gAdd [.int i, .int j] = some (.int (i + j)) := rfl
theorem tup3_ok {n : Nat} {a b c : D} (ha : Ok 1000 n a) (hb : Ok 1000 n b) (hc : Ok 1000 n c) : Ok 1000 (n + 1) (.tup [a, b, c]) := tup_ok (by simp) (by simpa using ⟨ha, hb, hc⟩)
theorem tup2_ok {n : Nat} {a b : D} (ha : Ok 1000 n a) (hb : Ok 1000 n b) : Ok 1000 (n + 1) (.tup [a, b]) := tup_ok (by simp) (by simpa using ⟨ha, hb⟩)
section
variable {self : List D → FR} {T : List Nat} {k : Int} {n : Nat}
def InvR (T : List Nat) (k : Int) (ρ : Dt.Env) : Prop := ∃ x2 x3 x4 x5 : Option D, ρ = [.fro (.str (SX.S T)), .fro (.int k), pl x2, pl x3, pl x4, pl x5]
def InvI (T I : List Nat) (k : Int) (ρ : Dt.Env) : Prop := ∃ x2 x4 x5 : Option D, ρ = [.fro (.str (SX.S T)), .fro (.int k), pl x2, .fro (.str (SX.S I)), pl x4, pl x5]
def Rds (self : List D → FR) (k : Int) (n : Nat) : Prop := ∀ T, TOk T → ∃ d, self [.str (SX.S T), .int (k + 1)] = .ok d [] ∧ Ok 1000 n d
theorem call_any (hs : Rds self k n) (hT : TOk T) {w : Str} {wl : List Nat} (hw : D.str w = .str (SX.S wl)) (lw : wl.length ≤ 8) (aw : asc wl) {x3 x4 x5 : Option D} :
    Out (InvR T k) (Ok 1000 (n + 1)) (t0_read self [.fro (.str (SX.S T)), .fro (.int k), .fro (.str w), pl x3, pl x4, pl x5]) := by
  have g1 : gAdd [.str w, .str (SX.S [40])] = some (.str (SX.S (wl ++ [40]))) := by rw [hw]; exact add_S (by simp; omega)
  have lw2 : gLen [.str w] = some (.int (wl.length : Nat)) := by rw [hw]; exact len_str (by omega)
  have okw : Ok 1000 n (.str w) := by rw [hw]; exact ok_S (by omega) aw
  have gn : gNeg [.int 1] = some (.int (-1)) := rfl
  have ad := ad_int
  cases b1 : Txt.startswith (SX.S T) (SX.S (wl ++ [40])) with
  | false =>
    refine ⟨.nx, [.fro (.str (SX.S T)), .fro (.int k), .fro (.str w), pl x3, pl x4, pl x5], ?_, .inl ⟨rfl, some _, x3, x4, x5, rfl⟩⟩
    unfold t0_read
    simp [g1, gStarts, b1, D.truth]
  | true =>
    cases b2 : Txt.endswith (SX.S T) (SX.S [41]) with
    | false =>
      refine ⟨.nx, [.fro (.str (SX.S T)), .fro (.int k), .fro (.str w), pl x3, pl x4, pl x5], ?_, .inl ⟨rfl, some _, x3, x4, x5, rfl⟩⟩
      unfold t0_read
      simp [g1, gStarts, gEnds, b1, b2, D.truth]
    | true =>
      obtain ⟨I, s1, _, hI⟩ := sl_any hT (some ((wl.length : Int) + 1)) (some (-1))
      obtain ⟨is, e1⟩ := parted_any (sg := [44, 32]) hI (by unfold asc; decide) (by decide)
      have l1 := len_any is
      have q1 := eq_one is.length
      match is, e1, l1, q1 with
      | [p], e1, l1, q1 =>
        have e1 : m_parted [.str (SX.S I), .str (SX.S [44, 32])] = .ok (.lst [.int (p : Nat)]) [] := e1
        have l1 : gLen [.lst [.int (p : Nat)]] = some (.int 1) := rfl
        have q1 : gEq [.int 1, .int 1] = some (.bl true) := by simp [gEq]
        have i0 : gIdx [.lst [.int (p : Nat)], .int 0] = some (.int (p : Nat)) := rfl
        obtain ⟨A, s2, _, hA⟩ := sl_any hI none (some (p : Int))
        obtain ⟨B, s3, _, hB⟩ := sl_any hI (some ((p : Int) + 2)) none
        obtain ⟨da, ra, oa⟩ := hs A hA
        obtain ⟨db, rb, ob⟩ := hs B hB
        have line3 : (3 : Nat) ≤ sizeLine := line_pos (by decide)
        refine ⟨.rt (.tup [.str w, da, db]), [.fro (.str (SX.S T)), .fro (.int k), .fro (.str w), .fro (.str (SX.S I)), pl x4, .fro (.lst [.int (p : Nat)])], ?_, .inr ⟨_, rfl, tup3_ok okw oa ob⟩⟩
        unfold t0_read u0_read
        simp [-ev_gSet, gSet_soft, g1, gStarts, gEnds, b1, b2, D.truth, lw2, ad, gn, s1, e1, l1, q1, i0, s2, s3, ra, rb, line3]
      | [], e1, l1, q1 =>
        have e1 : m_parted [.str (SX.S I), .str (SX.S [44, 32])] = .ok (.lst []) [] := e1
        have l1 : gLen [.lst []] = some (.int 0) := rfl
        have q1 : gEq [.int 0, .int 1] = some (.bl false) := by simp [gEq]
        refine ⟨.rt .non, [.fro (.str (SX.S T)), .fro (.int k), .fro (.str w), .fro (.str (SX.S I)), pl x4, .fro (.lst [])], ?_, .inr ⟨_, rfl, ok_non⟩⟩
        unfold t0_read u0_read
        simp [-ev_gSet, gSet_soft, g1, gStarts, gEnds, b1, b2, D.truth, lw2, ad, gn, s1, e1, l1, q1]
      | p :: q :: r, e1, l1, q1 =>
        rw [decide_eq_false (by simp)] at q1
        refine ⟨.rt .non, [.fro (.str (SX.S T)), .fro (.int k), .fro (.str w), .fro (.str (SX.S I)), pl x4, .fro (.lst ((p :: q :: r).map fun i => .int (i : Nat)))], ?_, .inr ⟨_, rfl, ok_non⟩⟩
        generalize (p :: q :: r).map (fun i => D.int (i : Nat)) = Z at *
        generalize (p :: q :: r).length = L at *
        unfold t0_read u0_read
        simp [-ev_gSet, gSet_soft, g1, gStarts, gEnds, b1, b2, D.truth, lw2, ad, gn, s1, e1, l1, q1]
theorem l0_any (hs : Rds self k n) (hT : TOk T) : Out (InvR T k) (Ok 1000 (n + 1)) (l0_read self [.fro (.str (SX.S T)), .fro (.int k), .no, .no, .no, .no]) := by
  unfold l0_read sFor
  simp only [ev_iAny, ev_cst, R.bind_ok, it_calls, ev_ofS]
  refine for_or (fun d hd ρ ⟨x2, x3, x4, x5, hρ⟩ => ?_) ⟨none, none, none, none, rfl⟩
  subst hρ
  simp only [List.mem_cons, List.not_mem_nil, or_false] at hd
  refine ⟨[.fro (.str (SX.S T)), .fro (.int k), .fro d, pl x3, pl x4, pl x5], by rw [gSet_soft (by simp)]; rfl, ?_⟩
  rcases hd with rfl | rfl
  · exact call_any hs hT w_ups (by decide) (by unfold asc; decide)
  · exact call_any hs hT w_sbt (by decide) (by unfold asc; decide)
theorem sign_any (hs : Rds self k n) {I : List Nat} (hI : TOk I) {p : Str × Nat} (hp : p.2 < 128) (okw : Ok 1000 n (.str p.1)) {x5 : Option D} :
    Out (InvI T I k) (Ok 1000 (n + 1)) (t1_read self [.fro (.str (SX.S T)), .fro (.int k), .fro (.str p.1), .fro (.str (SX.S I)), .fro (.str (SX.S [p.2])), pl x5]) := by
  obtain ⟨g1, g2⟩ := ga_sg p.2
  have ad := ad_int
  obtain ⟨is, e1⟩ := parted_any (sg := sgL p.2) hI (by unfold asc sgL; simp; omega) (by unfold sgL; simp)
  have l1 := len_any is
  have q1 := eq_one is.length
  match is, e1, l1, q1 with
  | [i], e1, l1, q1 =>
    have e1 : m_parted [.str (SX.S I), .str (SX.S (sgL p.2))] = .ok (.lst [.int (i : Nat)]) [] := e1
    have l1 : gLen [.lst [.int (i : Nat)]] = some (.int 1) := rfl
    have q1 : gEq [.int 1, .int 1] = some (.bl true) := by simp [gEq]
    have i0 : gIdx [.lst [.int (i : Nat)], .int 0] = some (.int (i : Nat)) := rfl
    obtain ⟨A, s2, _, hA⟩ := sl_any hI none (some (i : Int))
    obtain ⟨B, s3, _, hB⟩ := sl_any hI (some ((i : Int) + 3)) none
    obtain ⟨da, ra, oa⟩ := hs A hA
    obtain ⟨db, rb, ob⟩ := hs B hB
    have line3 : (3 : Nat) ≤ sizeLine := line_pos (by decide)
    refine ⟨.rt (.tup [.str p.1, da, db]), [.fro (.str (SX.S T)), .fro (.int k), .fro (.str p.1), .fro (.str (SX.S I)), .fro (.str (SX.S [p.2])), .fro (.lst [.int (i : Nat)])], ?_, .inr ⟨_, rfl, tup3_ok okw oa ob⟩⟩
    unfold t1_read
    simp [-ev_gSet, gSet_soft, g1, g2, ad, e1, l1, q1, i0, s2, s3, ra, rb, line3]
  | [], e1, l1, q1 =>
    have e1 : m_parted [.str (SX.S I), .str (SX.S (sgL p.2))] = .ok (.lst []) [] := e1
    have l1 : gLen [.lst []] = some (.int 0) := rfl
    have q1 : gEq [.int 0, .int 1] = some (.bl false) := by simp [gEq]
    refine ⟨.nx, [.fro (.str (SX.S T)), .fro (.int k), .fro (.str p.1), .fro (.str (SX.S I)), .fro (.str (SX.S [p.2])), .fro (.lst [])], ?_, .inl ⟨rfl, some _, some _, some _, rfl⟩⟩
    unfold t1_read
    simp [-ev_gSet, gSet_soft, g1, g2, e1, l1, q1]
  | i :: j :: r, e1, l1, q1 =>
    rw [decide_eq_false (by simp)] at q1
    refine ⟨.nx, [.fro (.str (SX.S T)), .fro (.int k), .fro (.str p.1), .fro (.str (SX.S I)), .fro (.str (SX.S [p.2])), .fro (.lst ((i :: j :: r).map fun i => .int (i : Nat)))], ?_, .inl ⟨rfl, some _, some _, some _, rfl⟩⟩
    generalize (i :: j :: r).map (fun i => D.int (i : Nat)) = Z at *
    generalize (i :: j :: r).length = L at *
    unfold t1_read
    simp [-ev_gSet, gSet_soft, g1, g2, e1, l1, q1]
theorem l1_any (hs : Rds self k n) {I : List Nat} (hI : TOk I) {x2 x4 x5 : Option D} : Out (InvI T I k) (Ok 1000 (n + 1)) (l1_read self [.fro (.str (SX.S T)), .fro (.int k), pl x2, .fro (.str (SX.S I)), pl x4, pl x5]) := by
  unfold l1_read sFor
  simp only [ev_iAny, ev_cst, R.bind_ok, it_signs, ev_ofS]
  refine for_or (fun d hd ρ ⟨x2, x4, x5, hρ⟩ => ?_) ⟨x2, x4, x5, rfl⟩
  subst hρ
  obtain ⟨p, hp, rfl⟩ := List.mem_map.mp hd
  refine ⟨[.fro (.str (SX.S T)), .fro (.int k), .fro (.str p.1), .fro (.str (SX.S I)), .fro (.str (SX.S [p.2])), pl x5], ?_, ?_⟩
  · unfold prS
    simp [-ev_gSet, gSet_soft]
  · unfold sgP at hp
    simp only [List.mem_cons, List.not_mem_nil, or_false] at hp
    rcases hp with rfl | rfl | rfl | rfl
    · exact sign_any (p := ("add", 43)) hs hI (by decide) (str8 (by decide +kernel) (by decide))
    · exact sign_any (p := ("less", 45)) hs hI (by decide) (str8 (by decide +kernel) (by decide))
    · exact sign_any (p := ("most", 124)) hs hI (by decide) (str8 (by decide +kernel) (by decide))
    · exact sign_any (p := ("least", 38)) hs hI (by decide) (str8 (by decide +kernel) (by decide))
theorem pm_inS (c : Nat) (h : c < 128) : gIn [.str ⟨#[c]⟩, .tup [.str "+", .str "-"]] = some (.bl (decide (c = 43) || decide (c = 45))) := okB_eq ((by decide +kernel : ∀ c < 128, okB (gIn [.str ⟨#[c]⟩, .tup [.str "+", .str "-"]]) (decide (c = 43) || decide (c = 45)) = true) c h)
theorem pm_eq (c : Nat) (h : c < 128) : gEq [.str ⟨#[c]⟩, .str "+"] = some (.bl (decide (c = 43))) := okB_eq ((by decide +kernel : ∀ c < 128, okB (gEq [.str ⟨#[c]⟩, .str "+"]) (decide (c = 43)) = true) c h)
theorem pm_nil : gIn [.str (SX.S []), .tup [.str "+", .str "-"]] = some (.bl false) := okB_eq (by decide +kernel)
theorem read_deep (hk : 12 < k) : runP 6 2 (b_read self) [.str (SX.S T), .int k] = .ok .non [] := by
  unfold runP b_read
  simp [gGt, lexI, hk]
theorem read_step (hs : Rds self k n) (hk : k ≤ 12) (hT : TOk T) : ∃ d, runP 6 2 (b_read self) [.str (SX.S T), .int k] = .ok d [] ∧ Ok 1000 (n + 1) d := by
  have hk' : ¬ (12 : Int) < k := by omega
  obtain ⟨f, ρ', e0, r⟩ := l0_any hs hT
  rcases r with ⟨rfl, x2, x3, x4, x5, rfl⟩ | ⟨v, rfl, ov⟩
  rotate_left
  · refine ⟨v, ?_, ov⟩
    unfold runP b_read
    simp [gGt, lexI, hk', e0]
  have ogt : Ok 1000 (n + 1) (.tup [.str "get", .str (SX.S T)]) := tup2_ok (get8 (by decide)) hT.ok
  cases b1 : Txt.startswith (SX.S T) (SX.S [40]) with
  | false =>
    refine ⟨.tup [.str "get", .str (SX.S T)], ?_, ogt⟩
    unfold runP b_read
    simp [gGt, lexI, hk', e0, gStarts, b1, D.truth, line2]
  | true =>
  cases b2 : Txt.endswith (SX.S T) (SX.S [41]) with
  | false =>
    refine ⟨.tup [.str "get", .str (SX.S T)], ?_, ogt⟩
    unfold runP b_read
    simp [gGt, lexI, hk', e0, gStarts, gEnds, b1, b2, D.truth, line2]
  | true =>
  have gn : gNeg [.int 1] = some (.int (-1)) := rfl
  have ad := ad_int
  obtain ⟨I, s1, _, hI⟩ := sl_any hT (some 1) (some (-1))
  obtain ⟨f, ρ', e1, r⟩ := l1_any (T := T) (x2 := x2) (x4 := x4) (x5 := x5) hs hI
  rcases r with ⟨rfl, y2, y4, y5, rfl⟩ | ⟨v, rfl, ov⟩
  rotate_left
  · refine ⟨v, ?_, ov⟩
    unfold runP b_read
    simp [-ev_gSet, gSet_soft, gGt, lexI, hk', e0, gStarts, gEnds, b1, b2, D.truth, gn, s1, e1]
  match I, s1, hI, e1 with
  | [], s1, hI, e1 =>
    obtain ⟨U, s2, lU, _⟩ := sl_any hI none (some 1)
    have hU : U = [] := List.length_eq_zero_iff.mp (by simpa using lU)
    subst hU
    have q1 := pm_nil
    refine ⟨.non, ?_, ok_non⟩
    unfold runP b_read
    simp [-ev_gSet, gSet_soft, gGt, lexI, hk', e0, gStarts, gEnds, b1, b2, D.truth, gn, s1, e1, s2, q1, line2]
  | c :: J, s1, hI, e1 =>
    have c128 : c < 128 := hI.as c (.head _)
    have lJ := hI.len
    rw [List.length_cons] at lJ
    have s2 : sliceD (.str (SX.S (c :: J))) none (some 1) = some (.str (SX.S [c])) := sl_to (p := [c]) (q := J) (by simp; omega)
    have s3 : sliceD (.str (SX.S (c :: J))) (some 1) none = some (.str (SX.S J)) := sl_from (p := [c]) (q := J) rfl (by simp; omega)
    have i0 : gIdx [.str (SX.S (c :: J)), .int 0] = some (.str (SX.S [c])) := by
      show (if (SX.S (c :: J)).length ≤ sizeLine then (L2.atI (c :: J) 0).map fun c => D.str ⟨#[c]⟩ else none) = _
      rw [SX.S_len, if_pos (line_pos (by simp; omega)), at_0]
      rfl
    have q1 : gIn [.str (SX.S [c]), .tup [.str "+", .str "-"]] = _ := pm_inS c c128
    have q2 : gEq [.str (SX.S [c]), .str "+"] = _ := pm_eq c c128
    have hJ : TOk J := hI.sub (by simp) fun z hz => .tail _ hz
    obtain ⟨d, rd, od⟩ := hs J hJ
    by_cases h1 : c = 43
    · rw [decide_eq_true h1, Bool.true_or] at q1
      rw [decide_eq_true h1] at q2
      refine ⟨.tup [.str "plus", d], ?_, tup2_ok (str8 (by decide +kernel) (by decide)) od⟩
      generalize c :: J = Y at *
      unfold runP b_read
      simp [-ev_gSet, gSet_soft, gGt, lexI, hk', e0, gStarts, gEnds, b1, b2, D.truth, gn, s1, e1, s2, q1, i0, q2, s3, ad, rd, line2]
    by_cases h2 : c = 45
    · rw [decide_eq_true h2, Bool.or_true] at q1
      rw [decide_eq_false h1] at q2
      refine ⟨.tup [.str "minus", d], ?_, tup2_ok (str8 (by decide +kernel) (by decide)) od⟩
      generalize c :: J = Y at *
      unfold runP b_read
      simp [-ev_gSet, gSet_soft, gGt, lexI, hk', e0, gStarts, gEnds, b1, b2, D.truth, gn, s1, e1, s2, q1, i0, q2, s3, ad, rd, line2]
    · rw [decide_eq_false h1, decide_eq_false h2, Bool.or_false] at q1
      refine ⟨.non, ?_, ok_non⟩
      generalize c :: J = Y at *
      unfold runP b_read
      simp [-ev_gSet, gSet_soft, gGt, lexI, hk', e0, gStarts, gEnds, b1, b2, D.truth, gn, s1, e1, s2, q1, line2]
end
theorem read_any : ∀ (f k : Nat) {T : List Nat}, 1 ≤ k → k ≤ 13 → 14 ≤ f + k → TOk T → ∃ d, m_read f [.str (SX.S T), .int k] = .ok d [] ∧ Ok 1000 (14 - k) d
  | 0, k, T, _, h1, h2, _ => by omega
  | f + 1, k, T, h0, h1, h2, hT => by
    by_cases hk : k = 13
    · subst hk
      exact ⟨.non, read_deep (by decide), ok_non⟩
    · have := read_step (self := m_read f) (k := (k : Int)) (n := 13 - k) (fun T hT => by
        obtain ⟨d, e, o⟩ := read_any f (k + 1) (by omega) (by omega) (by omega) hT
        exact ⟨d, e, by rw [show 14 - (k + 1) = 13 - k by omega] at o; exact o⟩) (by omega) hT
      rw [show 13 - k + 1 = 14 - k by omega] at this
      exact this
theorem read1 {T : List Nat} (hT : TOk T) : ∃ d, m_read 40 [.str (SX.S T), .int 1] = .ok d [] ∧ Ok 1000 13 d := read_any 40 1 (by decide) (by decide) (by decide) hT
end Lw

/-! read_line, read_expression, read_script on any text. -/
namespace Lw
open Dt PySem
theorem part_any {c : Nat} {sep T : List Nat} (h : TOk T) : ∃ p q o, gPart (SX.S T) (SX.S (c :: sep)) = some (.arg [.str (SX.S p), .str (SX.S o), .str (SX.S q)]) ∧ TOk p ∧ TOk q ∧ (o = [] ∨ o = c :: sep) := by
  have hl := h.len
  cases e : TL.par (c :: sep) [] T with
  | none => exact ⟨T, [], [], part_none e (by omega), h, tok_nil, .inl rfl⟩
  | some r =>
    obtain ⟨p, q⟩ := r
    obtain ⟨m1, m2, l1, l2⟩ := par_mem e
    refine ⟨p, q, c :: sep, ?_, h.sub (by simpa using l1) (fun x hx => (m1 x hx).elim (fun z => nomatch z) id), h.sub l2 m2, .inr rfl⟩
    unfold gPart
    rw [SX.partition_some (List.cons_ne_nil _ _) e, SX.S_len, SX.S_len, if_pos ⟨by simp, line_pos (by omega)⟩]
theorem ne_any {o : List Nat} (hl : o.length ≤ 1000) (ha : asc o) : gNe [.str (SX.S o), .str (SX.S [])] = some (.bl (!decide (o = []))) := by
  have e := eq_SS hl ha (b := []) (by simp) asc_nil
  show (eqD _ _).map _ = _
  rw [e]
  rfl
section
variable {T : List Nat}
def InvL (T : List Nat) (ρ : Dt.Env) : Prop := ∃ x1 x2 x3 x4 x5 x6 : Option D, ρ = [.fro (.str (SX.S T)), pl x1, pl x2, pl x3, pl x4, pl x5, pl x6]
theorem lcall_any (hT : TOk T) {w : Str} {wl : List Nat} (hw : D.str w = .str (SX.S wl)) (lw : wl.length ≤ 8) (aw : asc wl) {x2 x3 x4 x5 x6 : Option D} :
    Out (InvL T) (Ok 1000 14) (t0_read_line [.fro (.str (SX.S T)), .fro (.str w), pl x2, pl x3, pl x4, pl x5, pl x6]) := by
  obtain ⟨d1, d2⟩ := dots hw (by omega)
  obtain ⟨p, q, o, gp, hp, hq, ho⟩ := part_any (c := 46) (sep := wl ++ [40]) hT
  have okw : Ok 1000 13 (.str w) := by rw [hw]; exact ok_S (by omega) aw
  have ne := ne_any (o := o) (by rcases ho with rfl | rfl <;> simp; omega) (by
    rcases ho with rfl | rfl
    · exact asc_nil
    · simp only [asc_cons, asc_app]; exact ⟨by decide, aw, by decide, asc_nil⟩)
  by_cases h0 : o = []
  · rw [decide_eq_true h0] at ne
    refine ⟨.nx, [.fro (.str (SX.S T)), .fro (.str w), .fro (.str (SX.S p)), pl x3, .fro (.str (SX.S q)), pl x5, .fro (.str (SX.S o))], ?_, .inl ⟨rfl, some _, some _, x3, some _, x5, some _, rfl⟩⟩
    unfold t0_read_line
    simp [-ev_gSet, gSet_soft, d1, d2, gp, ne]
  rw [decide_eq_false h0] at ne
  cases b : Txt.endswith (SX.S q) (SX.S [41]) with
  | false =>
    refine ⟨.nx, [.fro (.str (SX.S T)), .fro (.str w), .fro (.str (SX.S p)), pl x3, .fro (.str (SX.S q)), pl x5, .fro (.str (SX.S o))], ?_, .inl ⟨rfl, some _, some _, x3, some _, x5, some _, rfl⟩⟩
    unfold t0_read_line
    simp [-ev_gSet, gSet_soft, d1, d2, gp, ne, gEnds, b, D.truth]
  | true =>
    obtain ⟨R, s1, _, hR⟩ := sl_any hq none (some (-1))
    obtain ⟨d, rd, od⟩ := read1 hR
    have gn : gNeg [.int 1] = some (.int (-1)) := rfl
    have line3 : (3 : Nat) ≤ sizeLine := line_pos (by decide)
    refine ⟨.rt (.tup [.str (SX.S p), .str w, d]), [.fro (.str (SX.S T)), .fro (.str w), .fro (.str (SX.S p)), pl x3, .fro (.str (SX.S q)), pl x5, .fro (.str (SX.S o))], ?_, .inr ⟨_, rfl, tup3_ok hp.ok okw od⟩⟩
    unfold t0_read_line
    simp [-ev_gSet, gSet_soft, d1, d2, gp, ne, gEnds, b, D.truth, gn, s1, rd, line3]
theorem l0_line (hT : TOk T) : Out (InvL T) (Ok 1000 14) (l0_read_line [.fro (.str (SX.S T)), .no, .no, .no, .no, .no, .no]) := by
  unfold l0_read_line sFor
  simp only [ev_iAny, ev_cst, R.bind_ok, it_calls, ev_ofS]
  refine for_or (fun d hd ρ ⟨x1, x2, x3, x4, x5, x6, hρ⟩ => ?_) ⟨none, none, none, none, none, none, rfl⟩
  subst hρ
  simp only [List.mem_cons, List.not_mem_nil, or_false] at hd
  refine ⟨[.fro (.str (SX.S T)), .fro d, pl x2, pl x3, pl x4, pl x5, pl x6], by rw [gSet_soft (by simp)]; rfl, ?_⟩
  rcases hd with rfl | rfl
  · exact lcall_any hT w_ups (by decide) (by unfold asc; decide)
  · exact lcall_any hT w_sbt (by decide) (by unfold asc; decide)
theorem lsign_any (hT : TOk T) {p : Str × Nat} (hp : p.2 < 128) (okw : Ok 1000 13 (.str p.1)) {x2 x3 x4 x6 : Option D} :
    Out (InvL T) (Ok 1000 14) (t1_read_line [.fro (.str (SX.S T)), .fro (.str p.1), pl x2, pl x3, pl x4, .fro (.str (SX.S [p.2])), pl x6]) := by
  obtain ⟨d1, d2⟩ := marks p.2
  obtain ⟨n, q, o, gp, hn, hq, ho⟩ := part_any (c := 32) (sep := [p.2, 61, 32]) hT
  have ne := ne_any (o := o) (by rcases ho with rfl | rfl <;> simp) (by
    rcases ho with rfl | rfl
    · exact asc_nil
    · simp only [asc_cons]; exact ⟨by decide, hp, by decide, by decide, asc_nil⟩)
  by_cases h0 : o = []
  · rw [decide_eq_true h0] at ne
    refine ⟨.nx, [.fro (.str (SX.S T)), .fro (.str p.1), .fro (.str (SX.S n)), .fro (.str (SX.S o)), .fro (.str (SX.S q)), .fro (.str (SX.S [p.2])), pl x6], ?_, .inl ⟨rfl, some _, some _, some _, some _, some _, x6, rfl⟩⟩
    unfold t1_read_line
    simp [-ev_gSet, gSet_soft, d1, d2, gp, ne]
  rw [decide_eq_false h0] at ne
  obtain ⟨d, rd, od⟩ := read1 hq
  have line3 : (3 : Nat) ≤ sizeLine := line_pos (by decide)
  refine ⟨.rt (.tup [.str (SX.S n), .str p.1, d]), [.fro (.str (SX.S T)), .fro (.str p.1), .fro (.str (SX.S n)), .fro (.str (SX.S o)), .fro (.str (SX.S q)), .fro (.str (SX.S [p.2])), pl x6], ?_, .inr ⟨_, rfl, tup3_ok hn.ok okw od⟩⟩
  unfold t1_read_line
  simp [-ev_gSet, gSet_soft, d1, d2, gp, ne, rd, line3]
theorem l1_line (hT : TOk T) {x1 x2 x3 x4 x5 x6 : Option D} : Out (InvL T) (Ok 1000 14) (l1_read_line [.fro (.str (SX.S T)), pl x1, pl x2, pl x3, pl x4, pl x5, pl x6]) := by
  unfold l1_read_line sFor
  simp only [ev_iAny, ev_cst, R.bind_ok, it_signs, ev_ofS]
  refine for_or (fun d hd ρ ⟨x1, x2, x3, x4, x5, x6, hρ⟩ => ?_) ⟨x1, x2, x3, x4, x5, x6, rfl⟩
  subst hρ
  obtain ⟨p, hp, rfl⟩ := List.mem_map.mp hd
  refine ⟨_, gm_ok (p := p), ?_⟩
  unfold sgP at hp
  simp only [List.mem_cons, List.not_mem_nil, or_false] at hp
  rcases hp with rfl | rfl | rfl | rfl
  · exact lsign_any (p := ("add", 43)) hT (by decide) (str8 (by decide +kernel) (by decide))
  · exact lsign_any (p := ("less", 45)) hT (by decide) (str8 (by decide +kernel) (by decide))
  · exact lsign_any (p := ("most", 124)) hT (by decide) (str8 (by decide +kernel) (by decide))
  · exact lsign_any (p := ("least", 38)) hT (by decide) (str8 (by decide +kernel) (by decide))
theorem line_any (hT : TOk T) : ∃ d, m_read_line [.str (SX.S T)] = .ok d [] ∧ Ok 1000 14 d := by
  obtain ⟨f, ρ', e0, r⟩ := l0_line hT
  rcases r with ⟨rfl, x1, x2, x3, x4, x5, x6, rfl⟩ | ⟨v, rfl, ov⟩
  rotate_left
  · refine ⟨v, ?_, ov⟩
    show runP 7 1 b_read_line _ = _
    unfold runP b_read_line
    simp [e0]
  obtain ⟨p, q, o, gp, hp, hq, ho⟩ := part_any (c := 32) (sep := [61, 32]) hT
  have ne := ne_any (o := o) (by rcases ho with rfl | rfl <;> simp) (by rcases ho with rfl | rfl <;> unfold asc <;> decide)
  by_cases h0 : o = []
  · rw [decide_eq_true h0] at ne
    obtain ⟨f, ρ', e1, r⟩ := l1_line hT (x1 := x1) (x2 := some (.str (SX.S p))) (x3 := some (.str (SX.S o))) (x4 := some (.str (SX.S q))) (x5 := x5) (x6 := x6)
    have e1 : l1_read_line [.fro (.str (SX.S T)), pl x1, .fro (.str (SX.S p)), .fro (.str (SX.S o)), .fro (.str (SX.S q)), pl x5, pl x6] = .ok f ρ' := e1
    rcases r with ⟨rfl, y1, y2, y3, y4, y5, y6, rfl⟩ | ⟨v, rfl, ov⟩
    · refine ⟨.non, ?_, ok_non⟩
      show runP 7 1 b_read_line _ = _
      unfold runP b_read_line
      simp [-ev_gSet, gSet_soft, e0, gp, ne, e1]
    · refine ⟨v, ?_, ov⟩
      show runP 7 1 b_read_line _ = _
      unfold runP b_read_line
      simp [-ev_gSet, gSet_soft, e0, gp, ne, e1]
  · rw [decide_eq_false h0] at ne
    obtain ⟨d, rd, od⟩ := read1 hq
    have line3 : (3 : Nat) ≤ sizeLine := line_pos (by decide)
    refine ⟨.tup [.str (SX.S p), .str "set", d], ?_, tup3_ok hp.ok (str8 (by decide +kernel) (by decide)) od⟩
    show runP 7 1 b_read_line _ = _
    unfold runP b_read_line
    simp [-ev_gSet, gSet_soft, e0, gp, ne, rd, line3]
end
theorem ne_two {a b : List Nat} (h1 : a.length ≤ 1000) (h2 : asc a) (h3 : b.length ≤ 1000) (h4 : asc b) : gNe [.str (SX.S a), .str (SX.S b)] = some (.bl (!decide (a = b))) := by
  show (eqD _ _).map _ = _
  rw [eq_SS h1 h2 h3 h4]
  rfl
theorem rex_any {T : List Nat} (hT : TOk T) : (∃ e, m_read_expression [.str (SX.S T)] = .ok (exD e) [] ∧ ExOk e ∧ tx e = T) ∨ m_read_expression [.str (SX.S T)] = .exc ⟨"NoText", .non⟩ := by
  obtain ⟨d, rd, od⟩ := read1 hT
  obtain ⟨e1, e2⟩ := exprB_ok (by decide) (by decide) od
  cases hb : exprB d with
  | false =>
    rw [hb] at e1
    refine .inr ?_
    show runP 2 1 b_read_expression _ = _
    unfold runP b_read_expression
    simp [isT, isTn, tyN, rd, e1, D.truth]
  | true =>
    obtain ⟨e, rfl, he⟩ := e2 hb
    rw [hb] at e1
    have hf := he.few
    have te := text_ok e 40 (by have := e.deep_size; omega) he.nms (by omega)
    have ne := ne_two (a := tx e) (b := T) (by have := tx_len' he.nms; omega) (tx_asc e he.nms) (by have := hT.len; omega) hT.as
    by_cases h : tx e = T
    · rw [decide_eq_true h] at ne
      refine .inl ⟨e, ?_, he, h⟩
      show runP 2 1 b_read_expression _ = _
      unfold runP b_read_expression
      simp [isT, isTn, tyN, rd, e1, te, ne, D.truth]
    · rw [decide_eq_false h] at ne
      refine .inr ?_
      show runP 2 1 b_read_expression _ = _
      unfold runP b_read_expression
      simp [isT, isTn, tyN, rd, e1, te, ne, D.truth]
theorem script_any {m n : Nat} {d : D} (hm : m ≤ 1000) (hn : n ≤ 37) (ok : Ok m n d) : ∃ b, m_is_script [d] = .ok (.bl b) [] ∧ (b = true → ∃ c, d = scD c ∧ ScOk c) := by
  by_cases h : ∃ ds, d = .tup ds ∧ ds.length ≤ 6 ∧ ds.all stepV = true
  · obtain ⟨ds, rfl, h6, ha⟩ := h
    obtain ⟨n, rfl⟩ : ∃ j, n = j + 1 := by
      cases n with
      | zero => exact ok.elim
      | succ n => exact ⟨n, rfl⟩
    obtain ⟨c, rfl, sp⟩ := steps_form hm (by omega) ok.2 ha
    rw [List.length_map] at h6
    have c0 := sc_comp0 hm (by omega) ok.2 (by rw [List.length_map]; omega)
    refine ⟨scriptB c, sc_yes sp h6 c0 ha, fun hb => ⟨c, rfl, ?_⟩⟩
    unfold scriptB at hb
    rw [Bool.and_eq_true, decide_eq_true_eq, decide_eq_true_eq] at hb
    exact ⟨sp, h6, hb.1, hb.2⟩
  · exact ⟨false, sc_no hm hn ok fun ds e z => h ⟨ds, e, z⟩, fun h => by cases h⟩
def lnD (y : List Nat) : D := match m_read_line [.str (SX.S y)] with
  | .ok d _ => d
  | _ => .non
theorem lnD_ok {y : List Nat} (h : TOk y) : m_read_line [.str (SX.S y)] = .ok (lnD y) [] ∧ Ok 1000 14 (lnD y) := by
  obtain ⟨d, e, o⟩ := line_any h
  have : lnD y = d := by unfold lnD; rw [e]
  rw [this]
  exact ⟨e, o⟩
theorem found_any {T : List Nat} (hT : TOk T) : ∃ ds, (sIf (sTst (sOps gEq (b2 (sLoc 0) (sVal (sCst (.str "")))))) (sTup sNil) (sOps gTuple (bCons (sVal c0_read_script) bNil))) [.fro (.str (SX.S T)), .no, .no, .no] = .ok (.tup ds) [.fro (.str (SX.S T)), .no, .no, .no] ∧ Ok 1000 15 (.tup ds) := by
  have hl := hT.len
  have eq0 := eq_SS (a := T) (b := []) (by omega) hT.as (by simp) asc_nil
  have eq0 : gEq [.str (SX.S T), .str (SX.S [])] = some (.bl (decide (T = []))) := by show (eqD _ _).map _ = _; rw [eq0]; rfl
  by_cases h0 : T = []
  · rw [decide_eq_true h0] at eq0
    exact ⟨[], by simp [eq0], tup_ok (by simp) (by simp)⟩
  · rw [decide_eq_false h0] at eq0
    obtain ⟨m, ml⟩ := spl_mem (S := [10]) T 0 []
    have tk : ∀ y ∈ TL.spl [10] 0 [] T, TOk y := fun y hy => by
      obtain ⟨a, b⟩ := m y hy
      exact hT.sub (by simpa using b) fun x hx => (a x hx).elim (fun z => nomatch z) id
    have sp : gSplit (SX.S T) (SX.S [10]) = some (.lst ((TL.spl [10] 0 [] T).map fun y => .str (SX.S y))) := by
      unfold gSplit
      rw [SX.split_S (by simp) (by decide), SX.S_len, SX.S_len, if_pos ⟨by simp, line_pos (by omega)⟩, List.map_map]
      rfl
    generalize TL.spl [10] 0 [] T = ys at *
    have e2 := comp1e (enc := fun y : List Nat => D.str (SX.S y)) (i := 2) (ρ := [.fro (.str (SX.S T)), .no, .no, .no]) (xs := ys) (s := sCallP 1 (m_read_line) (sCons (sVar 2) sNil)) lnD rfl fun y hy => by
      simp [(lnD_ok (tk y hy)).1]
    refine ⟨ys.map lnD, ?_, tup_ok (by rw [List.length_map]; omega) fun d hd => ?_⟩
    · have it2 : itemsD (.lst (ys.map fun y => .str (SX.S y))) = some (ys.map fun y => .str (SX.S y)) := rfl
      have hz2 : (ys.map fun y => D.str (SX.S y)).length ≤ sizeLine := by rw [List.length_map]; exact line_pos (by omega)
      have tp : gTuple [.lst (ys.map lnD)] = some (.tup (ys.map lnD)) := rfl
      generalize ys.map (fun y => D.str (SX.S y)) = Y at *
      generalize ys.map lnD = Q at *
      unfold c0_read_script sComp
      simp [eq0, sp, it2, plain_cons, plain_nil, hz2, wipeE, e2, backE, tp]
    · obtain ⟨y, hy, rfl⟩ := List.mem_map.mp hd
      exact (lnD_ok (tk y hy)).2
theorem rsc_any {T : List Nat} (hT : TOk T) : (∃ c, m_read_script [.str (SX.S T)] = .ok (scD c) [] ∧ ScOk c ∧ sxt c = T) ∨ m_read_script [.str (SX.S T)] = .exc ⟨"NoText", .non⟩ := by
  obtain ⟨ds, found, od⟩ := found_any hT
  rw [l_emp] at found
  obtain ⟨b, ib, hb⟩ := script_any (by decide) (by decide) od
  cases b with
  | false =>
    refine .inr ?_
    show runP 4 1 b_read_script _ = _
    unfold runP b_read_script
    simp [isT, isTn, tyN, -ev_if, found, ib, D.truth]
  | true =>
    obtain ⟨c, hc, h⟩ := hb rfl
    rw [hc] at found ib
    have l4 := (sxt_len h).1
    have e := comp1e (enc := stD) (i := 3) (ρ := [.fro (.str (SX.S T)), .fro (scD c), .no, .no]) (xs := c) (s := sCallP 1 (m_line_of) (sCons (sVar 3) sNil)) (fun s => .str (SX.S (stx s))) rfl fun s hs => by
      simp [line_ok (h.sp s hs).nm (h.sp s hs).ex.nms (by have := (h.sp s hs).ex.few; omega)]
    rw [lines_map] at e
    have jn := join_ok (ys := c.map stx) (by have := (sxt_len h).2; omega)
    have jn : joinG (SX.S [10]) (.lst ((c.map stx).map fun l => .str (SX.S l))) = some (.str (SX.S (sxt c))) := jn
    have hz : c.length ≤ sizeLine := line_pos (by have := h.six; omega)
    have it : itemsD (scD c) = some (c.map stD) := rfl
    have ne := ne_two (a := sxt c) (b := T) (by omega) (sxt_asc h) (by have := hT.len; omega) hT.as
    generalize (c.map stx).map (fun l => D.str (SX.S l)) = Z at *
    by_cases hx : sxt c = T
    · rw [decide_eq_true hx] at ne
      refine .inl ⟨c, ?_, h, hx⟩
      show runP 4 1 b_read_script _ = _
      unfold runP b_read_script c1_read_script sComp
      simp [isT, isTn, tyN, -ev_if, found, ib, it, plain_cons, plain_nil, hz, wipeE, e, backE, jn, ne, D.truth]
    · rw [decide_eq_false hx] at ne
      refine .inr ?_
      show runP 4 1 b_read_script _ = _
      unfold runP b_read_script c1_read_script sComp
      simp [isT, isTn, tyN, -ev_if, found, ib, it, plain_cons, plain_nil, hz, wipeE, e, backE, jn, ne, D.truth]
end Lw

/-! The law k28 on every script. -/
namespace Lw
open Dt PySem
def noText : FR → Bool
  | .exc x => x.cls == "NoText" && (match x.arg with | .non => true | _ => false)
  | _ => false
theorem noText_eq {r : FR} (h : noText r = true) : r = .exc ⟨"NoText", .non⟩ := by
  unfold noText at h
  split at h
  · rename_i x
    obtain ⟨c, a⟩ := x
    simp only [Bool.and_eq_true, beq_iff_eq] at h
    obtain ⟨h1, h2⟩ := h
    subst h1
    cases a <;> first | rfl | (cases h2; done)
  · cases h
/-! ### drawing -/
def abcS : List Str := ["a", "b", "c"]
theorem abcS_nm {x : Str} (h : x ∈ abcS) : NmOk x := (by unfold NmOk; decide +kernel : ∀ x ∈ abcS, NmOk x) x h
def Drn (s : Sp) : Prop := s.1 ∈ abcS ∧ s.2.2.size ≤ 3 ∧ s.2.2.all (· ∈ abcS)
theorem ex_abc {e : Ex} (h1 : e.size ≤ 12) (h2 : e.all (· ∈ abcS)) : ExOk e := ⟨h1, Ex.all_imp (fun x => abcS_nm) h2, nd_le (m := abcS) e.names_nd (Ex.names_all h2)⟩
theorem Drn.ok {s : Sp} (h : Drn s) : SpOk s := ⟨abcS_nm h.1, ex_abc (by have := h.2.1; omega) h.2.2⟩
theorem sizeS_le : ∀ {c : Sc}, (∀ s ∈ c, s.2.2.size ≤ 3) → sizeS c ≤ 3 * c.length
  | [], _ => Nat.le_refl _
  | s :: c, h => by
    have ih := sizeS_le (c := c) fun t ht => h t (.tail _ ht)
    have h3 : sizeS (s :: c) = s.2.2.size + sizeS c := by unfold sizeS; rw [List.map_cons, List.sum_cons]
    have := h s (.head _)
    rw [h3, List.length_cons]
    omega
theorem drn_sc {c : Sc} (hd : ∀ s ∈ c, Drn s) (hl : c.length ≤ 4) : ScOk c := by
  refine ⟨fun s hs => (hd s hs).ok, by omega, ?_, ?_⟩
  · have := sizeS_le fun s hs => (hd s hs).2.1
    omega
  · exact nd_le (m := abcS) (used_nd c) fun x hx => by
      obtain ⟨s, hs, h⟩ := mem_used.mp hx
      rcases h with rfl | h
      · exact (hd s hs).1
      · exact Ex.names_all (hd s hs).2.2 x h
theorem of_way7 {t : D} (h : TapeOk t) : ∃ o t', m_L_of [t, .lst [.str "add", .str "less", .str "most", .str "least", .str "update", .str "subtract", .str "set"]] = .ok (.str (wayN o)) [t'] ∧ TapeOk t' := by
  obtain ⟨k, t', hk, e, h'⟩ := of_ok (ds := [.str "add", .str "less", .str "most", .str "least", .str "update", .str "subtract", .str "set"]) h (by simp) (by simp)
  obtain ⟨w, ex⟩ : ∃ w : Option Way, ([.str "add", .str "less", .str "most", .str "least", .str "update", .str "subtract", .str "set"] : List D)[k] = .str (wayN w) := by
    have hk' : k < 7 := by simpa using hk
    match k, hk' with
    | 0, _ => exact ⟨some .add, rfl⟩
    | 1, _ => exact ⟨some .less, rfl⟩
    | 2, _ => exact ⟨some .most, rfl⟩
    | 3, _ => exact ⟨some .least, rfl⟩
    | 4, _ => exact ⟨some .update, rfl⟩
    | 5, _ => exact ⟨some .subtract, rfl⟩
    | 6, _ => exact ⟨none, rfl⟩
  rw [ex] at e
  exact ⟨w, t', e, h'⟩
theorem step_ok {t : D} (h : TapeOk t) : ∃ s t', m_L_step [t, nmL abcS, .int 3] = .ok (stD s) [t'] ∧ TapeOk t' ∧ Drn s := by
  obtain ⟨x, t1, e1, h1, hx⟩ := of_nm (W := abcS) (by decide) (by decide) h
  obtain ⟨o, t2, e2, h2⟩ := of_way7 h1
  obtain ⟨e, t3, e3, h3, s1, s2, al⟩ := sum_ok (W := abcS) (by decide) (by decide) 40 3 (by omega) (by omega) h2
  have e3 : m_L_sum 40 [t2, nmL abcS, .int 3] = .ok (exD e) [t3] := e3
  refine ⟨(x, o, e), t3, ?_, h3, hx, by show e.size ≤ 3; omega, al⟩
  have l3 : (3 : Nat) ≤ sizeLine := line_pos (by decide)
  show runI 3 3 b_L_step _ = _
  unfold runI b_L_step
  simp [e1, ways_ok, line1, gAdd, line7, e2, e3, l3, lastIo, stD]
theorem steps_made {c2 : Cell} : ∀ (ds : List D) {t : D}, TapeOk t → ∃ (c : Sc) (t' : D), compGo [3] (gSet 3) tT1 (sCallI 0 3 (m_L_step) (sCons (sVar 1) (sCons (sCst (.int 3)) sNil))) ds [.io t, .fro (nmL abcS), c2, .no] = .ok (c.map stD) [.io t', .fro (nmL abcS), c2, .no] ∧ TapeOk t' ∧ c.length = ds.length ∧ ∀ s ∈ c, Drn s
  | [], t, h => ⟨[], t, rfl, h, rfl, fun _ h => nomatch h⟩
  | d :: ds, t, h => by
    obtain ⟨s, t2, e2, h2, hs⟩ := step_ok h
    obtain ⟨c, t3, e3, h3', hl, hc⟩ := steps_made (c2 := c2) ds h2
    refine ⟨s :: c, t3, ?_, h3', by rw [List.length_cons, List.length_cons, hl], fun q hq => (List.mem_cons.mp hq).elim (fun e => e ▸ hs) (hc q)⟩
    unfold compGo
    simp [e2, plain_cons, plain_nil, wipeE]
    rw [e3]
theorem lscript_ok {t : D} (h : TapeOk t) : ∃ c t', m_L_script [t, nmL abcS, .int 4] = .ok (scD c) [t'] ∧ TapeOk t' ∧ c.length ≤ 4 ∧ ∀ s ∈ c, Drn s := by
  obtain ⟨k, t1, e1, h1, hk⟩ := draw_len (m := 5) h (by decide) (by decide)
  have e1 : m_L_draw [t, .int 5] = .ok (.int k) [t1] := e1
  obtain ⟨c, t2, e2, h2, hl, hc⟩ := steps_made (c2 := .fro (.int 4)) (upto 0 k) h1
  refine ⟨c, t2, ?_, h2, by rw [hl]; simp [upto]; omega, hc⟩
  have hr : rng1D [.int (k : Int)] = some (upto 0 k) := by simp [rng1D]; omega
  have hz : (upto 0 k).length ≤ sizeLine := line_pos (by simp [upto]; omega)
  have ad : gAdd [.int 4, .int 1] = some (.int 5) := rfl
  have tp : gTuple [.lst (c.map stD)] = some (scD c) := rfl
  generalize c.map stD = Z at *
  show runI 4 3 b_L_script _ = _
  unfold runI b_L_script c0_L_script sComp
  simp [ad, e1, hr, plain_cons, plain_nil, hz, wipeE, e2, backE, tp, lastIo]
def signsL : List D := [.str " ", .str "(", .str ")", .str "+", .str "-", .str "|", .str "&", .str ",", .str "a", .str ".", .str "=", .str "\n", .str "update(", .str "A"]
theorem signs_S : ∀ d ∈ signsL, ∃ l, d = .str (SX.S l) ∧ l.length ≤ 7 ∧ asc l := fun d hd => by
  unfold signsL at hd
  simp only [List.mem_cons, List.not_mem_nil, or_false] at hd
  rcases hd with rfl | rfl | rfl | rfl | rfl | rfl | rfl | rfl | rfl | rfl | rfl | rfl | rfl | rfl
  · exact ⟨[32], rfl, by decide, by unfold asc; decide⟩
  · exact ⟨[40], rfl, by decide, by unfold asc; decide⟩
  · exact ⟨[41], rfl, by decide, by unfold asc; decide⟩
  · exact ⟨[43], rfl, by decide, by unfold asc; decide⟩
  · exact ⟨[45], rfl, by decide, by unfold asc; decide⟩
  · exact ⟨[124], rfl, by decide, by unfold asc; decide⟩
  · exact ⟨[38], rfl, by decide, by unfold asc; decide⟩
  · exact ⟨[44], rfl, by decide, by unfold asc; decide⟩
  · exact ⟨[97], rfl, by decide, by unfold asc; decide⟩
  · exact ⟨[46], rfl, by decide, by unfold asc; decide⟩
  · exact ⟨[61], rfl, by decide, by unfold asc; decide⟩
  · exact ⟨[10], rfl, by decide, by unfold asc; decide⟩
  · exact ⟨[117, 112, 100, 97, 116, 101, 40], rfl, by decide, by unfold asc; decide⟩
  · exact ⟨[65], rfl, by decide, by unfold asc; decide⟩
theorem bent_ok {T : List Nat} (hT : asc T) (h4 : T.length ≤ 400) {t : D} (ht : TapeOk t) : ∃ T' t', m_L_bent [t, .str (SX.S T)] = .ok (.str (SX.S T')) [t'] ∧ TapeOk t' ∧ TOk T' := by
  have hK : TOk T := ⟨by omega, hT⟩
  obtain ⟨k, t1, e1, h1, hk⟩ := draw_len (m := T.length + 1) ht (by omega) (by omega)
  have e1 : m_L_draw [t, .int ((T.length : Int) + 1)] = .ok (.int k) [t1] := e1
  obtain ⟨v, t2, e2, h2, v0, v2⟩ := draw_lit 2 h1
  obtain ⟨A, s1, lA, oA⟩ := sl_any hK none (some (k : Int))
  have ln := len_str (l := T) (by omega)
  have ad := ad_int
  have l14 := line14
  by_cases hv : v = 0
  · subst hv
    obtain ⟨j, t3, hj, e3, h3⟩ := of_ok (ds := signsL) h2 (by decide) (by decide)
    obtain ⟨l, el, ll, la⟩ := signs_S _ (List.getElem_mem hj)
    rw [el] at e3
    have e3 : m_L_of [t2, .lst [.str (SX.S [32]), .str (SX.S [40]), .str (SX.S [41]), .str "+", .str "-", .str "|", .str "&", .str ",", .str "a", .str (SX.S [46]), .str "=", .str (SX.S [10]), .str "update(", .str "A"]] = .ok (.str (SX.S l)) [t3] := e3
    obtain ⟨B, s2, lB, oB⟩ := sl_any hK (some (k : Int)) none
    have a1 : gAdd [.str (SX.S A), .str (SX.S l)] = some (.str (SX.S (A ++ l))) := add_S (by omega)
    have a2 : gAdd [.str (SX.S (A ++ l)), .str (SX.S B)] = some (.str (SX.S (A ++ l ++ B))) := add_S (by rw [List.length_append]; omega)
    refine ⟨A ++ l ++ B, t3, ?_, h3, ⟨by rw [List.length_append, List.length_append]; omega, asc_app.mpr ⟨asc_app.mpr ⟨oA.as, la⟩, oB.as⟩⟩⟩
    have q0 : gEq [.int 0, .int 0] = some (.bl true) := by simp [gEq]
    generalize A ++ l ++ B = Z at *
    generalize A ++ l = Y at *
    show runI 4 2 b_L_bent _ = _
    unfold runI b_L_bent
    simp [-ev_gSet, gSet_soft, -ev_gOwn, gOwn_soft, ln, ad, e1, l14, e2, q0, s1, e3, a1, s2, a2, lastIo]
  · have hv' : (v == 0) = false := by simpa using hv
    obtain ⟨B, s2, lB, oB⟩ := sl_any hK (some ((k : Int) + 1)) none
    have a1 : gAdd [.str (SX.S A), .str (SX.S B)] = some (.str (SX.S (A ++ B))) := add_S (by omega)
    refine ⟨A ++ B, t2, ?_, h2, ⟨by rw [List.length_append]; omega, asc_app.mpr ⟨oA.as, oB.as⟩⟩⟩
    have q0 : gEq [.int v, .int 0] = some (.bl false) := by simp [gEq, hv']
    generalize A ++ B = Z at *
    show runI 4 2 b_L_bent _ = _
    unfold runI b_L_bent
    simp [-ev_gSet, gSet_soft, -ev_gOwn, gOwn_soft, ln, ad, e1, l14, e2, q0, s1, s2, a1, lastIo]
/-! ### turns -/
theorem rex_nostr {d : D} (h : isTo ["str"] d = some (.bl false)) : m_read_expression [d] = .exc ⟨"NoText", .non⟩ ∧ m_read_script [d] = .exc ⟨"NoText", .non⟩ := by
  constructor
  · show runP 2 1 b_read_expression _ = _
    unfold runP b_read_expression
    simp [h, D.truth]
  · show runP 4 1 b_read_script _ = _
    unfold runP b_read_script
    simp [h, D.truth]
theorem eq_text : eqD (.str "text") (.str "text") = some true := by decide +kernel
theorem ne_same {l : List Nat} (hl : l.length ≤ 1000) (ha : asc l) : gNe [.str (SX.S l), .str (SX.S l)] = some (.bl false) := by
  have := ne_two hl ha hl ha
  rw [decide_eq_true rfl] at this
  exact this
theorem isnot_tt : gIsNot [.bl true, .bl true] = some (.bl false) := rfl
section
variable {S tu : D} {e : Ex} {c : Sc}
def InvT (S tu : D) (c3 c4 : Cell) (e : Ex) (c : Sc) (ρ : Dt.Env) : Prop := ∃ (t : D) (x5 x6 x9 x10 : Option D), TapeOk t ∧ ρ = [.fro S, .own t, .fro tu, c3, c4, pl x5, pl x6, .fro (exD e), .fro (scD c), pl x9, pl x10]
theorem bend_turn {t : D} {c3 c4 : Cell} {x5 x6 x9 x10 : Option D} (hE : ExOk e) (hC : ScOk c) (ht : TapeOk t) : Ends (t0_law [.fro S, .own t, .fro tu, c3, c4, pl x5, pl x6, .fro (exD e), .fro (scD c), pl x9, pl x10]) (InvT S tu c3 c4 e c) := by
  have eq1 := eq_text
  have le := tx_len' hE.nms
  have lf := hE.few
  have ae := tx_asc e hE.nms
  have xt := extext_ok hE
  have xs := sctext_ok hC
  obtain ⟨T, t1, e1, h1, hT⟩ := bent_ok ae (by omega) ht
  unfold t0_law
  refine Ends.seq (ρ' := [.fro S, .own t1, .fro tu, c3, c4, pl x5, pl x6, .fro (exD e), .fro (scD c), .fro (.str (SX.S T)), pl x10]) ?_ ?_
  · simp [-ev_gSet, gSet_soft, xt, e1]
  have lT := hT.len
  have part : ∃ d, (sTried wdX e0_law) [.fro S, .own t1, .fro tu, c3, c4, pl x5, pl x6, .fro (exD e), .fro (scD c), .fro (.str (SX.S T)), pl x10] = .ok d [.fro S, .own t1, .fro tu, c3, c4, pl x5, pl x6, .fro (exD e), .fro (scD c), .fro (.str (SX.S T)), pl x10] ∧
      i0_law [.fro S, .own t1, .fro tu, c3, c4, pl x5, pl x6, .fro (exD e), .fro (scD c), .fro (.str (SX.S T)), .fro d] = .ok .nx [.fro S, .own t1, .fro tu, c3, c4, pl x5, pl x6, .fro (exD e), .fro (scD c), .fro (.str (SX.S T)), .fro d] := by
    rcases rex_any hT with ⟨e', r, he', htx⟩ | r
    · refine ⟨exD e', ?_, ?_⟩
      · unfold e0_law
        simp [froOnly, r]
      · have q1 := exprB_yes he'
        have q2 := extext_ok he'
        rw [htx] at q2
        have q3 := ne_same (l := T) (by omega) hT.as
        have q4 : isTo ["tuple"] (exD e') = some (.bl true) := by rw [exD_tup]; rfl
        have q5 := isnot_tt
        unfold i0_law
        simp [q4, D.truth, q1, q5, q2, q3]
    · refine ⟨.str "text", ?_, ?_⟩
      · unfold e0_law
        simp [froOnly, r, wdX]
      · have hne : T ≠ tx e := fun z => by
          rw [z, exread_ok hE] at r
          cases r
        have q3 := eq_SS (a := T) (b := tx e) (by omega) hT.as (by omega) ae
        rw [decide_eq_false hne] at q3
        unfold i0_law
        simp [isT, isTn, tyN, D.truth, gNe, gEq, eq1, xt, q3]
  obtain ⟨d, p1, p2⟩ := part
  refine Ends.seq (ρ' := [.fro S, .own t1, .fro tu, c3, c4, pl x5, pl x6, .fro (exD e), .fro (scD c), .fro (.str (SX.S T)), .fro d]) ?_ ?_
  · generalize sTried wdX e0_law = F at p1
    simp [-ev_gSet, gSet_soft, p1]
  refine Ends.seq p2 ?_
  have l4 := (sxt_len hC).1
  obtain ⟨U, t2, e2, h2, hU⟩ := bent_ok (sxt_asc hC) l4 h1
  refine Ends.seq (ρ' := [.fro S, .own t2, .fro tu, c3, c4, pl x5, pl x6, .fro (exD e), .fro (scD c), .fro (.str (SX.S U)), .fro d]) ?_ ?_
  · simp [-ev_gSet, gSet_soft, xs, e2]
  have lU := hU.len
  have part : ∃ g, (sTried wdX e1_law) [.fro S, .own t2, .fro tu, c3, c4, pl x5, pl x6, .fro (exD e), .fro (scD c), .fro (.str (SX.S U)), .fro d] = .ok g [.fro S, .own t2, .fro tu, c3, c4, pl x5, pl x6, .fro (exD e), .fro (scD c), .fro (.str (SX.S U)), .fro d] ∧
      i1_law [.fro S, .own t2, .fro tu, c3, c4, pl x5, pl x6, .fro (exD e), .fro (scD c), .fro (.str (SX.S U)), .fro g] = .ok .nx [.fro S, .own t2, .fro tu, c3, c4, pl x5, pl x6, .fro (exD e), .fro (scD c), .fro (.str (SX.S U)), .fro g] := by
    rcases rsc_any hU with ⟨c', r, hc', htx⟩ | r
    · refine ⟨scD c', ?_, ?_⟩
      · unfold e1_law
        simp [froOnly, r]
      · have q1 := isc_true hc'
        have q2 := sctext_ok hc'
        rw [htx] at q2
        have q3 := ne_same (l := U) (by omega) hU.as
        have q4 : isTo ["tuple"] (scD c') = some (.bl true) := rfl
        have q5 := isnot_tt
        unfold i1_law
        simp [q4, D.truth, q1, q5, q2, q3]
    · refine ⟨.str "text", ?_, ?_⟩
      · unfold e1_law
        simp [froOnly, r, wdX]
      · unfold i1_law
        simp [isT, isTn, tyN, D.truth, gNe, eq1]
  obtain ⟨g, p1, p2⟩ := part
  refine Ends.seq (ρ' := [.fro S, .own t2, .fro tu, c3, c4, pl x5, pl x6, .fro (exD e), .fro (scD c), .fro (.str (SX.S U)), .fro g]) ?_ ?_
  · generalize sTried wdX e1_law = F at p1
    simp [-ev_gSet, gSet_soft, p1]
  exact Ends.one p2 ⟨t2, x5, x6, some _, some _, h2, rfl⟩
theorem l0_ends {t : D} {c3 c4 : Cell} {x5 x6 x9 x10 : Option D} (hE : ExOk e) (hC : ScOk c) (ht : TapeOk t) : Ends (l0_law [.fro S, .own t, .fro tu, c3, c4, pl x5, pl x6, .fro (exD e), .fro (scD c), pl x9, pl x10]) (InvT S tu c3 c4 e c) := by
  have hr : rng1D [.int 8] = some (upto 0 8) := by simp [rng1D]
  have h := for_inv (I := InvT S tu c3 c4 e c) (g := gSet 5) (s := t0_law) (ds := upto 0 8) (ρ := [.fro S, .own t, .fro tu, c3, c4, pl x5, pl x6, .fro (exD e), .fro (scD c), pl x9, pl x10]) (fun d _ ρ ⟨t, x5, x6, x9, x10, ht, hρ⟩ => by
    subst hρ
    obtain ⟨ρ', e1, q⟩ := bend_turn (S := S) (tu := tu) (c3 := c3) (c4 := c4) (x5 := some d) (x6 := x6) (x9 := x9) (x10 := x10) hE hC ht
    exact ⟨_, ρ', .nx, by rw [gSet_soft (by simp)]; rfl, e1, .inl rfl, q⟩) ⟨t, x5, x6, x9, x10, ht, rfl⟩
  obtain ⟨ρ', e1, q⟩ := h
  refine ⟨ρ', ?_, q⟩
  unfold l0_law sFor
  simp [hr]
  exact e1
theorem l1_ends {t : D} {c3 c4 c5 : Cell} {x6 x9 x10 : Option D} : ∃ y6, l1_law [.fro S, .own t, .fro tu, c3, c4, c5, pl x6, .fro (exD e), .fro (scD c), pl x9, pl x10] = .ok .nx [.fro S, .own t, .fro tu, c3, c4, c5, pl y6, .fro (exD e), .fro (scD c), pl x9, pl x10] := by
  have eq1 := eq_text
  have h := for_inv (I := fun ρ => ∃ x6, ρ = [.fro S, .own t, .fro tu, c3, c4, c5, pl x6, .fro (exD e), .fro (scD c), pl x9, pl x10]) (g := gSet 6) (s := t1_law) (ds := [.non, .int 5, .lst [.str "a"], exD e, .bl true]) (ρ := [.fro S, .own t, .fro tu, c3, c4, c5, pl x6, .fro (exD e), .fro (scD c), pl x9, pl x10]) (fun d hd ρ ⟨x6, hρ⟩ => by
    subst hρ
    have hn : isTo ["str"] d = some (.bl false) := by
      simp only [List.mem_cons, List.not_mem_nil, or_false] at hd
      rcases hd with rfl | rfl | rfl | rfl | rfl
      · rfl
      · rfl
      · rfl
      · rw [exD_tup]; rfl
      · rfl
    obtain ⟨r1, r2⟩ := rex_nostr hn
    refine ⟨[.fro S, .own t, .fro tu, c3, c4, c5, .fro d, .fro (exD e), .fro (scD c), pl x9, pl x10], _, .nx, by rw [gSet_soft (by simp)]; rfl, ?_, .inl rfl, ⟨some d, rfl⟩⟩
    unfold t1_law e2_law e3_law
    simp [froOnly, r1, r2, wdX, gNe, eq1]
    rfl) ⟨x6, rfl⟩
  obtain ⟨ρ', e1, y6, rfl⟩ := h
  refine ⟨y6, ?_⟩
  unfold l1_law sFor
  simp [line1, line5, itemsD]
  exact e1
theorem turn_ok {x3 x4 x5 x6 x7 x8 x9 x10 : Option D} {t : D} (ht : TapeOk t) : Ends (t2_law [.fro S, .own t, .fro tu, pl x3, pl x4, pl x5, pl x6, pl x7, pl x8, pl x9, pl x10]) (Land S 9) := by
  have line3 : (3 : Nat) ≤ sizeLine := line_pos (by decide)
  unfold t2_law
  refine Ends.seq (ρ' := [.fro S, .own t, .fro tu, pl x3, .own (nmL abcS), pl x5, pl x6, pl x7, pl x8, pl x9, pl x10]) ?_ ?_
  · simp [-ev_gOwn, gOwn_soft, line3]
    rfl
  obtain ⟨k, t1, e1, h1, hk⟩ := draw_len (m := 10) ht (by decide) (by decide)
  have e1 : m_L_draw [t, .int 10] = .ok (.int k) [t1] := e1
  obtain ⟨e, t2, e2, h2, s1, s2, al⟩ := sum_ok (W := abcS) (by decide) (by decide) 40 (1 + k) (by omega) (by omega) h1
  have e2 : m_L_sum 40 [t1, nmL abcS, .int (1 + (k : Int))] = .ok (exD e) [t2] := by
    rw [show ((1 + k : Nat) : Int) = 1 + (k : Int) from by omega] at e2
    exact e2
  have hE : ExOk e := ex_abc (by omega) al
  obtain ⟨c, t3, e3, h3, hl, hd⟩ := lscript_ok h2
  have hC := drn_sc hd hl
  refine Ends.seq (ρ' := [.fro S, .own t3, .fro tu, pl x3, .fro (nmL abcS), pl x5, pl x6, .fro (exD e), .fro (scD c), pl x9, pl x10]) ?_ ?_
  · simp [-ev_gSet, gSet_soft, e1, gAdd, gI, e2, e3]
  obtain ⟨ρ', e4, t4, y5, y6, y9, y10, h4, rfl⟩ := l0_ends (S := S) (tu := tu) (c3 := pl x3) (c4 := .fro (nmL abcS)) (x5 := x5) (x6 := x6) (x9 := x9) (x10 := x10) hE hC h3
  refine Ends.seq e4 ?_
  obtain ⟨z6, e5⟩ := l1_ends (S := S) (tu := tu) (e := e) (c := c) (t := t4) (c3 := pl x3) (c4 := .fro (nmL abcS)) (c5 := pl y5) (x6 := y6) (x9 := y9) (x10 := y10)
  exact Ends.one e5 ⟨t4, _, rfl, h4, rfl, by simp⟩
end
/-! ### wrong texts -/
def wrongE : List D := [.str "", .str "A", .str "a + b", .str "(a+b)", .str "(a + b) ", .str "(a + b", .str "((a))", .str "(+ a)", .str "update(a,b)", .str "update(a)"]
def wrongS : List D := [.str "a", .str "a=b", .str "a += ", .str "a.update b", .str "a.plus(b)", .str "a = b\n", .str "\n", .str "a ^= b", .str "a == b"]
theorem wrongE_no : ∀ d ∈ wrongE ++ [D.str "(a + b + c)"], m_read_expression [d] = .exc ⟨"NoText", .non⟩ := fun d hd => noText_eq (by
  have : (wrongE ++ [D.str "(a + b + c)"]).all (fun d => noText (m_read_expression [d])) = true := by decide +kernel
  exact List.all_eq_true.mp this d hd)
theorem wrongS_no : ∀ d ∈ wrongS, m_read_script [d] = .exc ⟨"NoText", .non⟩ := fun d hd => noText_eq (by
  have : wrongS.all (fun d => noText (m_read_script [d])) = true := by decide +kernel
  exact List.all_eq_true.mp this d hd)
theorem none_left {E : SE} {ds : List D} {c0 c1 c2 c4 c5 c6 c7 c8 c10 : Cell} {c3 : Cell} (hE : ∀ d ∈ ds, (sTried wdX E) [c0, c1, c2, c3, c4, c5, c6, c7, c8, .fro d, c10] = .ok (.str "text") [c0, c1, c2, c3, c4, c5, c6, c7, c8, .fro d, c10]) :
    compGo [9] (gSet 9) (sTst (sOps gNe (b2 (sVal (sTried wdX E)) (sVal (sCst (.str "text")))))) (sVar 9) ds [c0, c1, c2, c3, c4, c5, c6, c7, c8, .no, c10] = .ok [] [c0, c1, c2, c3, c4, c5, c6, c7, c8, .no, c10] := by
  have eq1 := eq_text
  have h := comp1 (i := 9) (t := sTst (sOps gNe (b2 (sVal (sTried wdX E)) (sVal (sCst (.str "text")))))) (s := sVar 9) (ρ := [c0, c1, c2, c3, c4, c5, c6, c7, c8, .no, c10]) (ds := ds) (fun d => d) (fun _ => false) rfl (fun d hd => by
    have z := hE d hd
    refine ⟨?_, fun q => by cases q⟩
    generalize sTried wdX E = F at z
    show sTst _ [c0, c1, c2, c3, c4, c5, c6, c7, c8, .fro d, c10] = .ok false [c0, c1, c2, c3, c4, c5, c6, c7, c8, .fro d, c10]
    simp [z, gNe, eq1])
  rw [h, List.filter_eq_nil_iff.mpr (fun _ _ => by simp)]
  rfl
theorem plain : ∀ ns : List Int, ns.length ≤ 63 → (∀ z ∈ ns, PySem.Builtin.Int.intBits z ≤ 1048576) → ∃ o, m_law [.scr ns] = .ok (.bl true) o := fun ns hl hz => by
  obtain ⟨ρ', e, t, cs, rfl, _, hcs, hp⟩ := land_turns (S := .scr ns) (n := 8) (s := t2_law) (ds := upto 0 12) (ρ := [.fro (.scr ns), .own (.lst [.lst (ns.map D.int), .int 0, .int 0]), .no, .no, .no, .no, .no, .no, .no, .no, .no])
    (fun d hd t xs ht hx => by
      match xs, hx with
      | [x3, x4, x5, x6, x7, x8, x9, x10], _ => exact turn_ok ht) ⟨_, _, rfl, ⟨ns, 0, 0, rfl⟩, rfl, by simp⟩
  obtain ⟨xs, rfl⟩ := hp.map
  rw [List.length_map] at hcs
  match xs, hcs with
  | [x2, x3, x4, x5, x6, x7, x8, x9, x10], _ =>
  refine ⟨[], ?_⟩
  have hr : rng1D [.int 12] = some (upto 0 12) := by simp [rng1D]
  have line3 : (3 : Nat) ≤ sizeLine := line_pos (by decide)
  have line9' : (9 : Nat) ≤ sizeLine := line_pos (by decide)
  have line10 : (10 : Nat) ≤ sizeLine := line_pos (by decide)
  have line10' : (10 : Nat) < sizeLine := small_line (by decide)
  have line11 : (11 : Nat) ≤ sizeLine := line_pos (by decide)
  have eq0 : eqD (.lst []) (.lst []) = some true := by decide +kernel
  have e : forGo (gSet 2) t2_law (upto 0 12) [.fro (.scr ns), .own (.lst [.lst (ns.map D.int), .int 0, .int 0]), .no, .no, .no, .no, .no, .no, .no, .no, .no] = .ok .nx [.fro (.scr ns), .own t, pl x2, pl x3, pl x4, pl x5, pl x6, pl x7, pl x8, pl x9, pl x10] := e
  have k1 : ∀ x9, c0_law [.fro (.scr ns), .own t, pl x2, .own (.lst (wrongE ++ [.str "(a + b + c)"])), pl x4, pl x5, pl x6, pl x7, pl x8, pl x9, pl x10] = .ok (.lst []) [.fro (.scr ns), .own t, pl x2, .fro (.lst (wrongE ++ [.str "(a + b + c)"])), pl x4, pl x5, pl x6, pl x7, pl x8, pl x9, pl x10] := fun x9 => by
    have n := none_left (E := e4_law) (ds := wrongE ++ [.str "(a + b + c)"]) (c0 := .fro (.scr ns)) (c1 := .own t) (c2 := pl x2) (c3 := .fro (.lst (wrongE ++ [.str "(a + b + c)"]))) (c4 := pl x4) (c5 := pl x5) (c6 := pl x6) (c7 := pl x7) (c8 := pl x8) (c10 := pl x10) (fun d hd => by
      have r := wrongE_no d hd
      unfold e4_law
      simp [froOnly, r, wdX])
    have hz : (wrongE ++ [D.str "(a + b + c)"]).length ≤ sizeLine := line11
    generalize wrongE ++ [D.str "(a + b + c)"] = Z at *
    unfold c0_law sComp
    simp [itemsD, plain_cons, plain_nil, hz, wipeE, n, backE]
  have k2 : ∀ x9, c1_law [.fro (.scr ns), .own t, pl x2, .own (.lst wrongS), pl x4, pl x5, pl x6, pl x7, pl x8, pl x9, pl x10] = .ok (.lst []) [.fro (.scr ns), .own t, pl x2, .fro (.lst wrongS), pl x4, pl x5, pl x6, pl x7, pl x8, pl x9, pl x10] := fun x9 => by
    have n := none_left (E := e5_law) (ds := wrongS) (c0 := .fro (.scr ns)) (c1 := .own t) (c2 := pl x2) (c3 := .fro (.lst wrongS)) (c4 := pl x4) (c5 := pl x5) (c6 := pl x6) (c7 := pl x7) (c8 := pl x8) (c10 := pl x10) (fun d hd => by
      have r := wrongS_no d hd
      unfold e5_law
      simp [froOnly, r, wdX])
    have hz : wrongS.length ≤ sizeLine := line9'
    generalize wrongS = Z at *
    unfold c1_law sComp
    simp [itemsD, plain_cons, plain_nil, hz, wipeE, n, backE]
  show runP 11 1 b_law _ = _
  unfold runP b_law l2_law sFor
  unfold wrongE at k1
  unfold wrongS at k2
  simp only [List.cons_append, List.nil_append, l_emp] at k1
  simp only [l_nl] at k2
  simp [gList, line1, line2, line3, hr, e, -ev_gOwn, gOwn_soft, line9', line10, mAppend, line10', k1, k2, gNe, gEq, eq0]
end Lw

open PySem PySem.W PyProof.Rows in
set_option maxRecDepth 100000 in
set_option maxHeartbeats 0 in
theorem PySem.Challenge.cw_countersums_k28_whole_wrong_texts_holds : PySem.Challenge.rw_countersums_k28_whole_wrong_texts.Holds := by
  w_on; o_law; k_head; (case hw => w_witness2)
  k_fill
  refine Lw.walk (l := PySem.Challenge.rw_countersums_k28_whole_wrong_texts) rfl rfl (by rfl) (fun w h Y => PySem.W.km_in_of Y) ?F Lw.plain
  case F =>
    intro w mg fa h KX G hmg
    refine' Lw.all_mk KX G hmg ?a0 ?l0 ?c0 ?k0 ?a1 ?l1 ?c1 ?k1 ?a2 ?l2 ?c2 ?k2 ?a3 ?l3 ?c3 ?k3 ?a4 ?l4 ?c4 ?k4 ?a5 ?l5 ?c5 ?k5 ?a6 ?l6 ?c6 ?k6 ?a7 ?l7 ?c7 ?k7 ?a8 ?l8 ?c8 ?k8 ?a9 ?l9 ?c9 ?k9 ?a10 ?l10 ?c10 ?k10 ?a11 ?l11 ?c11 ?k11 ?a12 ?l12 ?c12 ?k12 ?a13 ?l13 ?c13 ?k13 ?a14 ?l14 ?c14 ?k14 ?a15 ?l15 ?c15 ?k15 ?a16 ?l16 ?c16 ?k16 ?a17 ?l17 ?c17 ?k17 ?a18 ?l18 ?c18 ?k18 ?a19 ?l19 ?c19 ?k19 ?a20 ?l20 ?c20 ?k20 ?a21 ?l21 ?c21 ?k21 ?a22 ?l22 ?c22 ?k22 ?a23 ?l23 ?c23 ?k23 ?a24 ?l24 ?c24 ?k24 ?a25 ?l25 ?c25 ?k25 ?a26 ?l26 ?c26 ?k26 ?a27 ?l27 ?c27 ?k27 ?a28 ?l28 ?c28 ?k28 ?a29 ?l29 ?c29 ?k29 ?tb1 ?tb2 ?tb3 ?tb4 ?z0 ?z1 ?z2 ?z3 ?z4 ?z5 ?z6 ?z7 ?z8 ?z9 ?z10 ?z11 ?y0 ?x0 ?y1 ?y2 ?y3 ?y4 ?y5 ?x5 ?y6 ?y7 ?x7 ?x7_0 ?x7_1 ?x7_2 ?x7_3 ?y8 ?x8 ?ea0 ?ea1 ?ea2 ?ea3 ?ea4 ?ea5 ?ea6 ?ea7 ?ea8 ?ea9 ?ea10 ?ed2 ?eb2 ?ed3 ?eb3 ?ed8 ?eb8
    (case a0 => k_is)
    (case l0 => k_is)
    (case c0 => k_is)
    (case k0 => k_is)
    (case a1 => k_is)
    (case l1 => k_is)
    (case c1 => k_is)
    (case k1 => k_is)
    (case a2 => k_is)
    (case l2 => k_is)
    (case c2 => k_is)
    (case k2 => k_is)
    (case a3 => k_is)
    (case l3 => k_is)
    (case c3 => k_is)
    (case k3 => k_is)
    (case a4 => k_is)
    (case l4 => k_is)
    (case c4 => k_is)
    (case k4 => k_is)
    (case a5 => k_is)
    (case l5 => k_is)
    (case c5 => k_is)
    (case k5 => k_is)
    (case a6 => k_is)
    (case l6 => k_is)
    (case c6 => k_is)
    (case k6 => k_is)
    (case a7 => k_is)
    (case l7 => k_is)
    (case c7 => k_is)
    (case k7 => k_is)
    (case a8 => k_is)
    (case l8 => k_is)
    (case c8 => k_is)
    (case k8 => k_is)
    (case a9 => k_is)
    (case l9 => k_is)
    (case c9 => k_is)
    (case k9 => k_is)
    (case a10 => k_is)
    (case l10 => k_is)
    (case c10 => k_is)
    (case k10 => k_is)
    (case a11 => k_is)
    (case l11 => k_is)
    (case c11 => k_is)
    (case k11 => k_is)
    (case a12 => k_is)
    (case l12 => k_is)
    (case c12 => k_is)
    (case k12 => k_is)
    (case a13 => k_is)
    (case l13 => k_is)
    (case c13 => k_is)
    (case k13 => k_is)
    (case a14 => k_is)
    (case l14 => k_is)
    (case c14 => k_is)
    (case k14 => k_is)
    (case a15 => k_is)
    (case l15 => k_is)
    (case c15 => k_is)
    (case k15 => k_is)
    (case a16 => k_is)
    (case l16 => k_is)
    (case c16 => k_is)
    (case k16 => k_is)
    (case a17 => k_is)
    (case l17 => k_is)
    (case c17 => k_is)
    (case k17 => k_is)
    (case a18 => k_is)
    (case l18 => k_is)
    (case c18 => k_is)
    (case k18 => k_is)
    (case a19 => k_is)
    (case l19 => k_is)
    (case c19 => k_is)
    (case k19 => k_is)
    (case a20 => k_is)
    (case l20 => k_is)
    (case c20 => k_is)
    (case k20 => k_is)
    (case a21 => k_is)
    (case l21 => k_is)
    (case c21 => k_is)
    (case k21 => k_is)
    (case a22 => k_is)
    (case l22 => k_is)
    (case c22 => k_is)
    (case k22 => k_is)
    (case a23 => k_is)
    (case l23 => k_is)
    (case c23 => k_is)
    (case k23 => k_is)
    (case a24 => k_is)
    (case l24 => k_is)
    (case c24 => k_is)
    (case k24 => k_is)
    (case a25 => k_is)
    (case l25 => k_is)
    (case c25 => k_is)
    (case k25 => k_is)
    (case a26 => k_is)
    (case l26 => k_is)
    (case c26 => k_is)
    (case k26 => k_is)
    (case a27 => k_is)
    (case l27 => k_is)
    (case c27 => k_is)
    (case k27 => k_is)
    (case a28 => k_is)
    (case l28 => k_is)
    (case c28 => k_is)
    (case k28 => k_is)
    (case a29 => k_is)
    (case l29 => k_is)
    (case c29 => k_is)
    (case k29 => k_is)
    (case tb1 => k_is)
    (case tb2 => rfl)
    (case tb3 => kernel_rfl)
    (case tb4 => kernel_rfl)
    (case z0 => k_is)
    (case z1 => k_is)
    (case z2 => k_is)
    (case z3 => k_is)
    (case z4 => k_is)
    (case z5 => k_is)
    (case z6 => k_is)
    (case z7 => k_is)
    (case z8 => k_is)
    (case z9 => k_is)
    (case z10 => k_is)
    (case z11 => k_is)
    (case y0 => k_is)
    (case x0 => k_is)
    (case y1 => k_is)
    (case y2 => k_is)
    (case y3 => k_is)
    (case y4 => k_is)
    (case y5 => k_is)
    (case x5 => k_is)
    (case y6 => k_is)
    (case y7 => k_is)
    (case x7 => k_is)
    (case x7_0 => k_is)
    (case x7_1 => k_is)
    (case x7_2 => k_is)
    (case x7_3 => k_is)
    (case y8 => k_is)
    (case x8 => k_is)
    (case ea0 => k_is)
    (case ea1 => k_is)
    (case ea2 => k_is)
    (case ea3 => k_is)
    (case ea4 => k_is)
    (case ea5 => k_is)
    (case ea6 => k_is)
    (case ea7 => k_is)
    (case ea8 => k_is)
    (case ea9 => k_is)
    (case ea10 => k_is)
    (case ed2 => constructor <;> first | k_is | k_exc)
    (case eb2 => constructor <;> kit_is)
    (case ed3 => constructor <;> first | k_is | k_exc)
    (case eb3 => constructor <;> kit_is)
    (case ed8 => constructor <;> first | k_is | k_exc)
    (case eb8 => constructor <;> kit_is)

