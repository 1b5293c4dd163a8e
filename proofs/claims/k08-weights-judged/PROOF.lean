import PyProof.Rows.All
import Wide.All
import OpenK.AllK
import Wide.FinOn
import HandS.ForMost
import HandS.ForExc
import HandS.Flow
import HandS.Style
import HandS.IsInst
import HandS.Wide
import HandS.TupAny
import HandS.EndBits
import HandS.Walk
import HandS.TupMul
import HandS.DictComp
import HandS.TupLe
import HandS.Deep
import HandS.More
import HandS.Lambda
import KE.KeyNested
import HandS.NoneIn
import HandS.Strs
import HandS.ListItems
import HandS.RevTup
import KE.KDictPairs
import HandS.Star
import HandS.CallLocal
import HandS.Zip
import PyProof.DictUpdate
import PyProof.Rows.TupTab
import KE.GoesEnum
import KE.DataCmp
import PySem.Challenge.RW_countersums_k08_whole_weights_judged
set_option Elab.async false
set_option linter.all false
set_option maxRecDepth 100000
set_option maxHeartbeats 2000000
/-! Plain data, what represents it in the abstract heap, and the relation of a plain environment to slots and heap. -/
namespace Dt
open PySem PySem.Spec PyProof.Rows L2

/-- plain data -/
inductive D where
  | non | bl (b : Bool) | int (i : Int) | str (s : Str)
  | tup (xs : List D) | lst (xs : List D) | dct (ks : List Key) (xs : List D) | scr (ns : List Int) | arg (xs : List D) | fn (nm : Str)
  /-- a dict with nested tuples as keys -/
  | nd (ks : List D) (xs : List D)
  deriving Inhabited

/-- the tuple at a, its object told: it has no dictionary of its own -/
def TupC (F : Hp) (a : Addr) (xs : List V) : Prop := ∃ o : Obj, o.dict = none ∧ F a = some (.frz o (.tup xs))
theorem TupC.sq {K : PySem.W.Frag} {F : Hp} {a : Addr} {xs : List V} (h : TupC F a xs) : SqT K F a xs := let ⟨o, _, e⟩ := h; .inl (.inr ⟨o, e⟩)
theorem TupC.new {F : Hp} {a : Addr} {xs : List V} {o : Obj} (d : o.dict = none) : TupC (upd F a (.frz o (.tup xs))) a xs := ⟨o, d, upd_same⟩
/-- where the def of that name lies -/
def fnA (K : PySem.W.Frag) (nm : Str) : Addr := match PySem.W.nsIn K mainGlobals nm with
  | some (some (.ref a)) => a
  | _ => 0
mutual
/-- the key that a datum is -/
def nk : D → Option NestedKey
  | .bl b => some (.num (if b = true then 1 else 0))
  | .int i => some (.num i)
  | .tup ds => (nks ds).map .tup
  | _ => none
def nks : List D → Option (List NestedKey)
  | [] => some []
  | d :: ds => (nk d).bind fun k => (nks ds).map fun ks => k :: ks
end
/-- a tuple that is a key -/
def nkey : D → Option NestedKey
  | .tup ds => match nk (.tup ds) with
    | some k => if k.depth ≤ 8 then some k else none
    | none => none
  | _ => none
/-- what stands at p is just this object -/
def AtO (p : Addr) (ob : Obj) : HO := .ext fun h => h.get? p = some ob
/-- the object ob at p is a dict of these rows: keys, where they lie, values -/
structure NdC (p : Addr) (ob : Obj) (xs : List (NestedKey × Addr × Value)) (ks : List D) (vs : List V) : Prop where
  ns : (p == sysModules) = false
  ex : ob.ExactDict
  en : ∃ es ep, ob.data = .dict es ep ∧ ∀ (P : Program) (w : World), es.toList = xs.map (entryOfKey (nestedKind P w))
  nod : (xs.map (·.1)).Nodup
  vals : Vals vs (xs.map fun x => x.2.2)
  keys : ks.map nkey = xs.map fun x => some x.1
/-- a dict that is data is locked for good: so it may be walked -/
def lk (o : Obj) : HO → HO
  | .dK kvs => .frz o (.dK kvs)
  | .ext φ => .frz o (.ext φ)
  | u => u
/-- what may be locked -/
def Lkb (u : HO) : Prop := (∃ xs, u = .lst xs) ∨ (∃ kvs, u = .dK kvs) ∨ ∃ φ, u = .ext φ
mutual
/-- v stands for the data in the frozen heap F -/
inductive Rp (K : PySem.W.Frag) (F : Hp) : V → D → Prop
  | non : Rp K F .non .non
  | bl (b : Bool) : Rp K F (.bl b) (.bl b)
  | int (i : Int) : Rp K F (.int i) (.int i)
  | str (s : Str) : Rp K F (.str s) (.str s)
  | tup {a : Addr} {xs : List V} {ds : List D} : TupC F a xs → Rps K F xs ds → Rp K F (.ref a) (.tup ds)
  | arg {a : Addr} {xs : List V} {ds : List D} : SqT K F a xs → Rps K F xs ds → Rp K F (.ref a) (.arg ds)
  | lst {a : Addr} {xs : List V} {ds : List D} : F a = some (.lst xs) → Rps K F xs ds → Rp K F (.ref a) (.lst ds)
  | dct {a : Addr} {o : Obj} {kvs : List (Key × V)} {ds : List D} : F a = some (.frz o (.dK kvs)) → Rps K F (kvs.map (·.2)) ds → Rp K F (.ref a) (.dct (kvs.map (·.1)) ds)
  | scr {a : Addr} {ns : List Int} : SqL K F a (ns.map V.int) → Rp K F (.ref a) (.scr ns)
  | fn (nm : Str) : Rp K F (.ref (fnA K nm)) (.fn nm)
  | nd {a : Addr} {o ob : Obj} {xs : List (NestedKey × Addr × Value)} {vs : List V} {ks ds : List D} : F a = some (.frz o (AtO a ob)) → NdC a ob xs ks vs → Rps K F (xs.map fun x => .ref x.2.1) ks → Rps K F vs ds → Rp K F (.ref a) (.nd ks ds)
inductive Rps (K : PySem.W.Frag) (F : Hp) : List V → List D → Prop
  | nil : Rps K F [] []
  | cons {v : V} {vs : List V} {d : D} {ds : List D} : Rp K F v d → Rps K F vs ds → Rps K F (v :: vs) (d :: ds)
end

def FLe (F F' : Hp) : Prop := ∀ a o, F a = some o → F' a = some o
theorem FLe.refl (F : Hp) : FLe F F := fun _ _ h => h
theorem FLe.trans {F G H : Hp} (a : FLe F G) (b : FLe G H) : FLe F H := fun c o h => b c o (a c o h)
theorem FLe.noneOf {F G : Hp} (h : FLe F G) {a : Addr} (n : G a = none) : F a = none := by
  cases e : F a with
  | none => rfl
  | some o => rw [h a o e] at n; cases n
theorem FLe.rd {F G : Hp} (h : FLe F G) {a : Addr} {u : HO} (r : Rd F a u) : Rd G a u := by
  rcases r with r | ⟨o, r⟩
  · exact .inl (h _ _ r)
  · exact .inr ⟨o, h _ _ r⟩
theorem FLe.tupC {F G : Hp} (h : FLe F G) {a : Addr} {xs : List V} (r : TupC F a xs) : TupC G a xs := let ⟨o, d, e⟩ := r; ⟨o, d, h _ _ e⟩
theorem FLe.sqT {K : PySem.W.Frag} {F G : Hp} (h : FLe F G) {a : Addr} {xs : List V} (r : SqT K F a xs) : SqT K G a xs := by
  rcases r with r | r
  · exact .inl (h.rd r)
  · exact .inr r
theorem FLe.sqL {K : PySem.W.Frag} {F G : Hp} (h : FLe F G) {a : Addr} {xs : List V} (r : SqL K F a xs) : SqL K G a xs := by
  rcases r with r | r
  · exact .inl (h.rd r)
  · exact .inr r
mutual
theorem Rp.mono {K : PySem.W.Frag} {F G : Hp} (h : FLe F G) : ∀ {v : V} {d : D}, Rp K F v d → Rp K G v d
  | _, _, .non => .non
  | _, _, .bl b => .bl b
  | _, _, .int b => .int b
  | _, _, .str b => .str b
  | _, _, .tup t r => .tup (h.tupC t) (Rps.mono h r)
  | _, _, .arg t r => .arg (h.sqT t) (Rps.mono h r)
  | _, _, .lst t r => .lst (h _ _ t) (Rps.mono h r)
  | _, _, .dct t r => .dct (h _ _ t) (Rps.mono h r)
  | _, _, .scr t => .scr (h.sqL t)
  | _, _, .fn nm => .fn nm
  | _, _, .nd t c r1 r2 => .nd (h _ _ t) c (Rps.mono h r1) (Rps.mono h r2)
theorem Rps.mono {K : PySem.W.Frag} {F G : Hp} (h : FLe F G) : ∀ {vs : List V} {ds : List D}, Rps K F vs ds → Rps K G vs ds
  | _, _, .nil => .nil
  | _, _, .cons a b => .cons (Rp.mono h a) (Rps.mono h b)
end
section
variable {K : PySem.W.Frag} {F : Hp}
theorem Rps.length : ∀ {vs : List V} {ds : List D}, Rps K F vs ds → vs.length = ds.length
  | _, _, .nil => rfl
  | _, _, .cons _ b => by rw [List.length_cons, List.length_cons, Rps.length b]
theorem Rps.get : ∀ {vs : List V} {ds : List D} {i : Nat} {d : D}, Rps K F vs ds → ds[i]? = some d → ∃ v, vs[i]? = some v ∧ Rp K F v d
  | _, _, _, _, .nil, e => by simp at e
  | _, _, 0, _, .cons a _, e => by simp at e; subst e; exact ⟨_, rfl, a⟩
  | _, _, i + 1, _, .cons _ b, e => by
    obtain ⟨v, h1, h2⟩ := Rps.get (i := i) b (by simpa using e)
    exact ⟨v, by simpa using h1, h2⟩
theorem Rps.get' : ∀ {vs : List V} {ds : List D} {i : Nat} {v : V}, Rps K F vs ds → vs[i]? = some v → ∃ d, ds[i]? = some d ∧ Rp K F v d
  | _, _, _, _, .nil, e => by simp at e
  | _, _, 0, _, .cons a _, e => by simp at e; subst e; exact ⟨_, rfl, a⟩
  | _, _, i + 1, _, .cons _ b, e => by
    obtain ⟨v, h1, h2⟩ := Rps.get' (i := i) b (by simpa using e)
    exact ⟨v, by simpa using h1, h2⟩
theorem Rps.append : ∀ {vs ws : List V} {ds es : List D}, Rps K F vs ds → Rps K F ws es → Rps K F (vs ++ ws) (ds ++ es)
  | _, _, _, _, .nil, s => s
  | _, _, _, _, .cons a b, s => .cons a (b.append s)
theorem Rps.take : ∀ {vs : List V} {ds : List D} (n : Nat), Rps K F vs ds → Rps K F (vs.take n) (ds.take n)
  | _, _, 0, _ => .nil
  | _, _, _ + 1, .nil => .nil
  | _, _, n + 1, .cons a b => .cons a (b.take n)
theorem Rps.drop : ∀ {vs : List V} {ds : List D} (n : Nat), Rps K F vs ds → Rps K F (vs.drop n) (ds.drop n)
  | _, _, 0, r => r
  | _, _, _ + 1, .nil => .nil
  | _, _, n + 1, .cons _ b => b.drop n
theorem Rps.set : ∀ {vs : List V} {ds : List D} (n : Nat) {v : V} {d : D}, Rps K F vs ds → Rp K F v d → Rps K F (vs.set n v) (ds.set n d)
  | _, _, _, _, _, .nil, _ => .nil
  | _, _, 0, _, _, .cons _ b, r => .cons r b
  | _, _, n + 1, _, _, .cons a b, r => .cons a (b.set n r)
theorem Rps.eraseIdx : ∀ {vs : List V} {ds : List D} (n : Nat), Rps K F vs ds → Rps K F (vs.eraseIdx n) (ds.eraseIdx n)
  | _, _, _, .nil => by simp only [List.eraseIdx_nil]; exact .nil
  | _, _, 0, .cons _ b => b
  | _, _, n + 1, .cons a b => .cons a (b.eraseIdx n)
theorem Rps.reverse {vs : List V} {ds : List D} (r : Rps K F vs ds) : Rps K F vs.reverse ds.reverse := by
  induction vs generalizing ds with
  | nil => cases r; exact .nil
  | cons v vs ih =>
    cases r with
    | cons a b => rw [List.reverse_cons, List.reverse_cons]; exact (ih b).append (.cons a .nil)
theorem Rps.rep {vs : List V} {ds : List D} (r : Rps K F vs ds) : ∀ n, Rps K F (List.replicate n vs).flatten (List.replicate n ds).flatten
  | 0 => .nil
  | n + 1 => by rw [List.replicate_succ, List.replicate_succ, List.flatten_cons, List.flatten_cons]; exact r.append (r.rep n)
end

/-- a variable: nothing is known; frozen data; a list or dict that is its own; the same where it is the caller's -/
inductive Cell where
  | no | fro (d : D) | own (d : D) | io (d : D)
abbrev Env := List Cell
def Cell.held : Cell → Option D
  | .own d => some d
  | .io d => some d
  | _ => none
def Cell.data : Cell → Option D
  | .fro d => some d
  | .own d => some d
  | .io d => some d
  | .no => none

/-- the object o holds the data, its parts in F -/
def OwnObj (K : PySem.W.Frag) (F : Hp) (p : Addr) (o : HO) : D → Prop
  | .lst ds => ∃ xs, o = .lst xs ∧ Rps K F xs ds
  | .dct ks ds => ∃ kvs, o = .dK kvs ∧ kvs.map (·.1) = ks ∧ Rps K F (kvs.map (·.2)) ds
  | .nd ks ds => ∃ ob xs vs, o = AtO p ob ∧ NdC p ob xs ks vs ∧ Rps K F (xs.map fun x => .ref x.2.1) ks ∧ Rps K F vs ds
  | _ => False
theorem OwnObj.mono {K : PySem.W.Frag} {F G : Hp} (h : FLe F G) {p : Addr} {o : HO} {d : D} (r : OwnObj K F p o d) : OwnObj K G p o d := by
  cases d with
  | lst ds => obtain ⟨xs, e, r⟩ := r; exact ⟨xs, e, r.mono h⟩
  | dct ks ds => obtain ⟨kvs, e, e2, r⟩ := r; exact ⟨kvs, e, e2, r.mono h⟩
  | nd ks ds => obtain ⟨ob, xs, vs, e, c, r1, r2⟩ := r; exact ⟨ob, xs, vs, e, c, r1.mono h, r2.mono h⟩
  | _ => exact r
theorem OwnObj.rp {K : PySem.W.Frag} {F : Hp} {p : Addr} {od : Obj} {o : HO} {d : D} (r : OwnObj K F p o d) (e : F p = some (lk od o)) : Rp K F (.ref p) d := by
  cases d with
  | lst ds => obtain ⟨xs, rfl, r⟩ := r; exact .lst e r
  | dct ks ds => obtain ⟨kvs, rfl, rfl, r⟩ := r; exact .dct e r
  | nd ks ds => obtain ⟨ob, xs, vs, rfl, c, r1, r2⟩ := r; exact .nd e c r1 r2
  | _ => exact r.elim
theorem OwnObj.lkb {K : PySem.W.Frag} {F : Hp} {p : Addr} {o : HO} {d : D} (r : OwnObj K F p o d) : Lkb o := by
  cases d with
  | lst ds => obtain ⟨xs, rfl, r⟩ := r; exact .inl ⟨_, rfl⟩
  | dct ks ds => obtain ⟨kvs, rfl, rfl, r⟩ := r; exact .inr (.inl ⟨_, rfl⟩)
  | nd ks ds => obtain ⟨ob, xs, vs, rfl, _⟩ := r; exact .inr (.inr ⟨_, rfl⟩)
  | _ => exact r.elim
theorem lk_lst {od : Obj} {xs : List V} : lk od (.lst xs) = .lst xs := rfl
/-- the object at p is the variable's own -/
structure OwnAt (K : PySem.W.Frag) (F R H : Hp) (p : Addr) (d : D) : Prop where
  nF : F p = none
  nR : R p = none
  at_ : ∃ o, H p = some o ∧ OwnObj K F p o d
def CellOk (K : PySem.W.Frag) (F R H : Hp) (v : Option V) : Cell → Prop
  | .no => True
  | .fro d => ∃ x, v = some x ∧ Rp K F x d
  | .own d => ∃ p, v = some (.ref p) ∧ OwnAt K F R H p d
  | .io d => ∃ p, v = some (.ref p) ∧ OwnAt K F R H p d

/-- the slots whose objects are the caller's; the tables of code objects, the name that their entries bear -/
structure Io where
  l : List (Nat × Addr) := []
  tabs : List (Addr × Str) := []
/-- a table: it is nobody's; the code objects that it tells are known for good -/
def TabOk (F R H : Hp) (t : Addr × Str) : Prop := F t.1 = none ∧ R t.1 = none ∧ ∃ ps : Array Value, H t.1 = some (.tbl ps) ∧ TriplesOk ps.toList ∧ ∀ (pos : Pos) (cv : Value), codeAmong pos ps.toList = some cv → ∃ c, cv = .ref c ∧ F c = some (LamX.CodeO c t.2)
theorem TabOk.mv {F R H F' R' H' : Hp} {t : Addr × Str} (h : TabOk F R H t) (hF : F' t.1 = none) (hR : R' t.1 = none) (hH : ∀ ps, H t.1 = some (.tbl ps) → H' t.1 = some (.tbl ps)) (le : FLe F F') : TabOk F' R' H' t := by
  obtain ⟨_, _, ps, e, tr, k⟩ := h
  exact ⟨hF, hR, ps, hH ps e, tr, fun pos cv z => let ⟨c, e1, e2⟩ := k pos cv z; ⟨c, e1, le _ _ e2⟩⟩
theorem own_ne {K : PySem.W.Frag} {F R H : Hp} {p P : Addr} {d : D} {ps : Array Value} (w : OwnAt K F R H p d) (e : H P = some (.tbl ps)) : P ≠ p := fun z => by
  subst z
  obtain ⟨o, e1, h⟩ := w.at_
  rw [e] at e1
  cases e1
  cases d with
  | lst ds => obtain ⟨_, z, _⟩ := h; cases z
  | dct ks ds => obtain ⟨_, z, _, _⟩ := h; cases z
  | nd ks ds => obtain ⟨_, _, _, z, _⟩ := h; cases z
  | _ => exact h
theorem TabOk.tbl {F R H : Hp} {t : Addr × Str} (h : TabOk F R H t) : ∃ ps, H t.1 = some (.tbl ps) := let ⟨_, _, ps, e, _⟩ := h; ⟨ps, e⟩
/-- ρ tells of the slots σ and the heap H. F: what is frozen; R: what others keep; io: the slots whose objects are the caller's -/
structure Rel (K : PySem.W.Frag) (io : Io) (R : Hp) (ρ : Env) (F : Hp) (σ : L2.St) (H : Hp) : Prop where
  fH : FLe F H
  rH : FLe R H
  dj : ∀ a o, F a = some o → R a = none
  len : ρ.length = σ.length
  cell : ∀ (i : Nat) (c : Cell) (v : Option V), ρ[i]? = some c → σ[i]? = some v → CellOk K F R H v c
  inj : ∀ (i j : Nat) (ci cj : Cell) (di dj : D) (p : Addr), ρ[i]? = some ci → ρ[j]? = some cj → ci.held = some di → cj.held = some dj → σ[i]? = some (some (.ref p)) → σ[j]? = some (some (.ref p)) → i = j
  ios : ∀ ip ∈ io.l, (∃ d, ρ[ip.1]? = some (.io d)) ∧ σ[ip.1]? = some (some (.ref ip.2))
  ioc : ∀ (i : Nat) (d : D), ρ[i]? = some (.io d) → ∃ p, (i, p) ∈ io.l
  tab : ∀ t ∈ io.tabs, TabOk F R H t

section
variable {K : PySem.W.Frag} {io : Io} {R : Hp} {ρ : Env} {F F' : Hp} {σ : L2.St} {H H' : Hp}
theorem Rel.slot (r : Rel K io R ρ F σ H) {i : Nat} {c : Cell} (e : ρ[i]? = some c) : ∃ v, σ[i]? = some v ∧ CellOk K F R H v c := by
  have h := (List.getElem?_eq_some_iff.mp e).1
  have h2 : i < σ.length := by rw [← r.len]; exact h
  exact ⟨σ[i], by simp [h2], r.cell i c _ e (by simp [h2])⟩
theorem Rel.heldAt (r : Rel K io R ρ F σ H) {i : Nat} {c : Cell} {d : D} (e : ρ[i]? = some c) (h : c.held = some d) : ∃ p, σ[i]? = some (some (.ref p)) ∧ OwnAt K F R H p d := by
  obtain ⟨v, e1, q⟩ := r.slot e
  cases c with
  | no => cases h
  | fro _ => cases h
  | own d' => cases h; obtain ⟨p, rfl, q⟩ := q; exact ⟨p, e1, q⟩
  | io d' => cases h; obtain ⟨p, rfl, q⟩ := q; exact ⟨p, e1, q⟩
/-- the heap has more, what is frozen has more: none of it was there -/
theorem Rel.grow (r : Rel K io R ρ F σ H) (hF : FLe F F') (hH : FLe H H') (hFH : FLe F' H') (new : ∀ a o, F' a = some o → F a = some o ∨ H a = none) : Rel K io R ρ F' σ H' := by
  have own : ∀ {p d}, OwnAt K F R H p d → OwnAt K F' R H' p d := fun {p d} q => by
    obtain ⟨o, e, q3⟩ := q.at_
    refine ⟨?_, q.nR, o, hH _ _ e, q3.mono hF⟩
    cases e' : F' p with
    | none => rfl
    | some o' =>
      rcases new p o' e' with z | z
      · rw [q.nF] at z; cases z
      · rw [e] at z; cases z
  refine ⟨hFH, r.rH.trans hH, fun a o e => ?_, r.len, fun i c v e1 e2 => ?_, r.inj, r.ios, r.ioc, fun t ht => ?_⟩
  · rcases new a o e with z | z
    · exact r.dj a o z
    · exact r.rH.noneOf z
  · have q := r.cell i c v e1 e2
    cases c with
    | no => trivial
    | fro d => obtain ⟨x, e, q⟩ := q; exact ⟨x, e, q.mono hF⟩
    | own d => obtain ⟨p, e, q⟩ := q; exact ⟨p, e, own q⟩
    | io d => obtain ⟨p, e, q⟩ := q; exact ⟨p, e, own q⟩
  · have q := r.tab t ht
    obtain ⟨ps, ep⟩ := q.tbl
    refine q.mv ?_ q.2.1 (fun ps e => hH _ _ e) hF
    cases e' : F' t.1 with
    | none => rfl
    | some o' =>
      rcases new _ _ e' with z | z
      · rw [q.1] at z; cases z
      · rw [ep] at z; cases z
/-- a new frozen object -/
theorem Rel.new (r : Rel K io R ρ F σ H) {p : Addr} (n : H p = none) (o : HO) : Rel K io R ρ (upd F p o) σ (upd H p o) := by
  refine r.grow (fun a u e => ?_) (fun a u e => ?_) (fun a u e => ?_) fun a u e => ?_
  · rw [upd_ne (ne_of_none (r.fH a u e) n)]; exact e
  · rw [upd_ne (ne_of_none e n)]; exact e
  · by_cases h : a = p
    · subst h; rw [upd_same] at e ⊢; exact e
    · rw [upd_ne h] at e ⊢; exact r.fH a u e
  · by_cases h : a = p
    · subst h; exact .inr n
    · rw [upd_ne h] at e; exact .inl e
theorem FLe.upd {F : Hp} {p : Addr} (o : HO) (n : F p = none) : FLe F (upd F p o) := fun a u e => by
  rw [upd_ne (ne_of_none e n)]; exact e
/-- a new object that nobody holds -/
theorem Rel.newH (r : Rel K io R ρ F σ H) {p : Addr} (n : H p = none) (o : HO) : Rel K io R ρ F σ (L2.upd H p o) :=
  r.grow (FLe.refl F) (FLe.upd o n) (r.fH.trans (FLe.upd o n)) fun a u e => .inl e
/-- a variable takes frozen data -/
theorem Rel.setFro (r : Rel K io R ρ F σ H) {i : Nat} {v : V} {d : D} (h : Rp K F v d) (hi : ∀ e, ρ[i]? ≠ some (Cell.io e)) : Rel K io R (ρ.set i (.fro d)) F (σ.set i (some v)) H := by
  refine ⟨r.fH, r.rH, r.dj, by rw [List.length_set, List.length_set]; exact r.len, fun j c w e1 e2 => ?_, fun j k cj ck dj dk p h1 h2 h3 h4 h5 h6 => ?_, fun ip hip => ?_, fun j d' e => ?_, r.tab⟩
  · rw [List.getElem?_set] at e1 e2
    by_cases hj : i = j
    · rw [if_pos hj] at e1 e2
      split at e1
      · cases e1
        split at e2
        · cases e2; exact ⟨v, rfl, h⟩
        · cases e2
      · cases e1
    · rw [if_neg hj] at e1 e2; exact r.cell j c w e1 e2
  · have ne : ∀ {j : Nat} {cj : Cell} {dj : D}, (ρ.set i (.fro d))[j]? = some cj → cj.held = some dj → i ≠ j ∧ ρ[j]? = some cj := fun {j cj dj} e1 e2 => by
      rw [List.getElem?_set] at e1
      by_cases hj : i = j
      · rw [if_pos hj] at e1
        split at e1
        · cases e1; cases e2
        · cases e1
      · rw [if_neg hj] at e1; exact ⟨hj, e1⟩
    obtain ⟨n1, g1⟩ := ne h1 h3
    obtain ⟨n2, g2⟩ := ne h2 h4
    rw [List.getElem?_set_ne n1] at h5
    rw [List.getElem?_set_ne n2] at h6
    exact r.inj j k cj ck dj dk p g1 g2 h3 h4 h5 h6
  · obtain ⟨⟨d', e1⟩, e2⟩ := r.ios ip hip
    have hn : i ≠ ip.1 := fun e => by subst e; exact hi d' e1
    exact ⟨⟨d', by rw [List.getElem?_set_ne hn]; exact e1⟩, by rw [List.getElem?_set_ne hn]; exact e2⟩
  · rw [List.getElem?_set] at e
    split at e
    · split at e <;> cases e
    · exact r.ioc j d' e
/-- nothing more is known of a variable -/
theorem Rel.forget (r : Rel K io R ρ F σ H) {i : Nat} (o : Option V) (hi : ∀ e, ρ[i]? ≠ some (Cell.io e)) : Rel K io R (ρ.set i .no) F (σ.set i o) H := by
  refine ⟨r.fH, r.rH, r.dj, by rw [List.length_set, List.length_set]; exact r.len, fun j c w e1 e2 => ?_, fun j k cj ck dj dk p h1 h2 h3 h4 h5 h6 => ?_, fun ip hip => ?_, fun j d' e => ?_, r.tab⟩
  · rw [List.getElem?_set] at e1 e2
    by_cases hj : i = j
    · rw [if_pos hj] at e1
      split at e1
      · cases e1; trivial
      · cases e1
    · rw [if_neg hj] at e1 e2; exact r.cell j c w e1 e2
  · have ne : ∀ {j : Nat} {cj : Cell} {dj : D}, (ρ.set i .no)[j]? = some cj → cj.held = some dj → i ≠ j ∧ ρ[j]? = some cj := fun {j cj dj} e1 e2 => by
      rw [List.getElem?_set] at e1
      by_cases hj : i = j
      · rw [if_pos hj] at e1
        split at e1
        · cases e1; cases e2
        · cases e1
      · rw [if_neg hj] at e1; exact ⟨hj, e1⟩
    obtain ⟨n1, g1⟩ := ne h1 h3
    obtain ⟨n2, g2⟩ := ne h2 h4
    rw [List.getElem?_set_ne n1] at h5
    rw [List.getElem?_set_ne n2] at h6
    exact r.inj j k cj ck dj dk p g1 g2 h3 h4 h5 h6
  · obtain ⟨⟨d', e1⟩, e2⟩ := r.ios ip hip
    have hn : i ≠ ip.1 := fun e => by subst e; exact hi d' e1
    exact ⟨⟨d', by rw [List.getElem?_set_ne hn]; exact e1⟩, by rw [List.getElem?_set_ne hn]; exact e2⟩
  · rw [List.getElem?_set] at e
    split at e
    · split at e <;> cases e
    · exact r.ioc j d' e
/-- no variable holds p -/
def Loose (ρ : Env) (σ : L2.St) (p : Addr) : Prop := ∀ (i : Nat) (c : Cell) (d : D), ρ[i]? = some c → c.held = some d → σ[i]? ≠ some (some (.ref p))
theorem Rel.loose (r : Rel K io R ρ F σ H) {p : Addr} (n : H p = none) : Loose ρ σ p := fun i c d e1 e2 e3 => by
  obtain ⟨q, e4, w⟩ := r.heldAt e1 e2
  rw [e3] at e4; cases e4
  obtain ⟨o, e, _⟩ := w.at_
  rw [n] at e; cases e
/-- a variable takes an object that nobody holds -/
theorem Rel.setOwn (r : Rel K io R ρ F σ H) {i : Nat} {p : Addr} {d : D} (h : OwnAt K F R H p d) (lo : Loose ρ σ p) (hi : ∀ e, ρ[i]? ≠ some (Cell.io e)) : Rel K io R (ρ.set i (.own d)) F (σ.set i (some (.ref p))) H := by
  refine ⟨r.fH, r.rH, r.dj, by rw [List.length_set, List.length_set]; exact r.len, fun j c w e1 e2 => ?_, fun j k cj ck dj dk q h1 h2 h3 h4 h5 h6 => ?_, fun ip hip => ?_, fun j d' e => ?_, r.tab⟩
  · rw [List.getElem?_set] at e1 e2
    by_cases hj : i = j
    · rw [if_pos hj] at e1 e2
      split at e1
      · cases e1
        split at e2
        · cases e2; exact ⟨p, rfl, h⟩
        · cases e2
      · cases e1
    · rw [if_neg hj] at e1 e2; exact r.cell j c w e1 e2
  · rw [List.getElem?_set] at h1 h2 h5 h6
    by_cases hj : i = j
    · by_cases hk : i = k
      · exact hj.symm.trans hk
      · rw [if_neg hk] at h2 h6
        rw [if_pos hj] at h5
        split at h5
        · have z : V.ref p = V.ref q := Option.some.inj (Option.some.inj h5)
          cases z
          exact absurd h6 (lo k ck dk h2 h4)
        · cases h5
    · rw [if_neg hj] at h1 h5
      by_cases hk : i = k
      · rw [if_pos hk] at h6
        split at h6
        · have z : V.ref p = V.ref q := Option.some.inj (Option.some.inj h6)
          cases z
          exact absurd h5 (lo j cj dj h1 h3)
        · cases h6
      · rw [if_neg hk] at h2 h6
        exact r.inj j k cj ck dj dk q h1 h2 h3 h4 h5 h6
  · obtain ⟨⟨d', e1⟩, e2⟩ := r.ios ip hip
    have hn : i ≠ ip.1 := fun e => by subst e; exact hi d' e1
    exact ⟨⟨d', by rw [List.getElem?_set_ne hn]; exact e1⟩, by rw [List.getElem?_set_ne hn]; exact e2⟩
  · rw [List.getElem?_set] at e
    split at e
    · split at e <;> cases e
    · exact r.ioc j d' e
/-- the object of a variable is changed -/
def Cell.put (c : Cell) (d : D) : Cell := match c with
  | .own _ => .own d
  | .io _ => .io d
  | c => c
theorem Rel.write (r : Rel K io R ρ F σ H) {i : Nat} {c : Cell} {d0 d : D} {p : Addr} {o : HO} (hc : ρ[i]? = some c) (hh : c.held = some d0) (hp : σ[i]? = some (some (.ref p))) (ho : OwnObj K F p o d) :
    Rel K io R (ρ.set i (c.put d)) F σ (L2.upd H p o) := by
  obtain ⟨p', e1, w⟩ := r.heldAt hc hh
  rw [hp] at e1; cases e1
  have hil : i < ρ.length := (List.getElem?_eq_some_iff.mp hc).1
  have nF : ∀ a u, F a = some u → a ≠ p := fun a u e z => by subst z; rw [w.nF] at e; cases e
  have nR : ∀ a u, R a = some u → a ≠ p := fun a u e z => by subst z; rw [w.nR] at e; cases e
  have hp2 : (c.put d).held = some d := by cases c <;> first | rfl | cases hh
  refine ⟨fun a u e => by rw [upd_ne (nF a u e)]; exact r.fH a u e, fun a u e => by rw [upd_ne (nR a u e)]; exact r.rH a u e, r.dj, by rw [List.length_set]; exact r.len, fun j cj v e1 e2 => ?_, fun j k cj ck dj dk q h1 h2 h3 h4 h5 h6 => ?_, fun ip hip => ?_, fun j d' e => ?_, fun t ht => let q := r.tab t ht; q.mv q.1 q.2.1 (fun ps e => by rw [upd_ne (own_ne w e)]; exact e) (FLe.refl F)⟩
  · by_cases hj : i = j
    · subst hj
      rw [List.getElem?_set_self hil] at e1
      cases e1
      rw [hp] at e2; cases e2
      have own : OwnAt K F R (L2.upd H p o) p d := ⟨w.nF, w.nR, o, upd_same, ho⟩
      cases c with
      | no => cases hh
      | fro _ => cases hh
      | own _ => exact ⟨p, rfl, own⟩
      | io _ => exact ⟨p, rfl, own⟩
    · rw [List.getElem?_set_ne hj] at e1
      have q := r.cell j cj v e1 e2
      have keep : ∀ {dj p'}, cj.held = some dj → v = some (.ref p') → OwnAt K F R H p' dj → OwnAt K F R (L2.upd H p o) p' dj := fun {dj p'} h3 h4 q => by
        obtain ⟨o', e, q3⟩ := q.at_
        refine ⟨q.nF, q.nR, o', ?_, q3⟩
        rw [upd_ne]
        · exact e
        · intro z
          subst z
          rw [h4] at e2
          exact hj (r.inj i j c cj d0 dj p' hc e1 hh h3 hp e2)
      cases cj with
      | no => trivial
      | fro _ => exact q
      | own dj => obtain ⟨p', e, q⟩ := q; exact ⟨p', e, keep rfl e q⟩
      | io dj => obtain ⟨p', e, q⟩ := q; exact ⟨p', e, keep rfl e q⟩
  · have old : ∀ {j : Nat} {cj : Cell} {dj : D}, (ρ.set i (c.put d))[j]? = some cj → cj.held = some dj → ∃ cj' dj', ρ[j]? = some cj' ∧ cj'.held = some dj' := fun {j cj dj} e1 e2 => by
      by_cases hj : i = j
      · subst hj; exact ⟨c, d0, hc, hh⟩
      · rw [List.getElem?_set_ne hj] at e1; exact ⟨cj, dj, e1, e2⟩
    obtain ⟨_, _, g1, g2⟩ := old h1 h3
    obtain ⟨_, _, g3, g4⟩ := old h2 h4
    exact r.inj j k _ _ _ _ q g1 g3 g2 g4 h5 h6
  · obtain ⟨⟨d', e1⟩, e2⟩ := r.ios ip hip
    refine ⟨?_, e2⟩
    by_cases hj : i = ip.1
    · subst hj
      rw [hc] at e1; cases e1
      exact ⟨d, by rw [List.getElem?_set_self hil]; rfl⟩
    · exact ⟨d', by rw [List.getElem?_set_ne hj]; exact e1⟩
  · by_cases hj : i = j
    · subst hj
      rw [List.getElem?_set_self hil] at e
      cases c with
      | no => cases hh
      | fro _ => cases hh
      | own _ => cases e
      | io d'' => exact r.ioc i d'' hc
    · rw [List.getElem?_set_ne hj] at e; exact r.ioc j d' e
/-- a variable's own object is frozen -/
theorem Rel.freeze (r : Rel K io R ρ F σ H) {i : Nat} {d : D} {p : Addr} {o : HO} (hc : ρ[i]? = some (.own d)) (hp : σ[i]? = some (some (.ref p))) (ho : H p = some o) (hr : OwnObj K F p o d) (od : Obj) :
    FLe F (L2.upd F p (lk od o)) ∧ Rel K io R (ρ.set i (.fro d)) (L2.upd F p (lk od o)) σ (L2.upd H p (lk od o)) ∧ Rp K (L2.upd F p (lk od o)) (.ref p) d := by
  obtain ⟨p', e1, w⟩ := r.heldAt hc rfl
  rw [hp] at e1; cases e1
  have hil : i < ρ.length := (List.getElem?_eq_some_iff.mp hc).1
  have le : FLe F (L2.upd F p (lk od o)) := FLe.upd _ w.nF
  have rp : Rp K (L2.upd F p (lk od o)) (.ref p) d := (hr.mono le).rp upd_same
  have nR : ∀ a u, R a = some u → a ≠ p := fun a u e z => by subst z; rw [w.nR] at e; cases e
  refine ⟨le, ⟨fun a u e => ?_, fun a u e => by rw [upd_ne (nR a u e)]; exact r.rH a u e, fun a u e => ?_, by rw [List.length_set]; exact r.len, fun j cj v e1 e2 => ?_, fun j k cj ck dj dk q h1 h2 h3 h4 h5 h6 => ?_, fun ip hip => ?_, fun j d' e => ?_, fun t ht => let q := r.tab t ht; let ⟨ps, ep⟩ := q.tbl; q.mv (by rw [upd_ne (own_ne w ep)]; exact q.1) q.2.1 (fun ps e => by rw [upd_ne (own_ne w e)]; exact e) le⟩, rp⟩
  · by_cases h : a = p
    · subst h; rw [upd_same] at e; cases e; exact upd_same
    · rw [upd_ne h] at e; rw [upd_ne h]; exact r.fH a u e
  · by_cases h : a = p
    · subst h; exact w.nR
    · rw [upd_ne h] at e; exact r.dj a u e
  · by_cases hj : i = j
    · subst hj
      rw [List.getElem?_set_self hil] at e1
      cases e1
      rw [hp] at e2; cases e2
      exact ⟨_, rfl, rp⟩
    · rw [List.getElem?_set_ne hj] at e1
      have q := r.cell j cj v e1 e2
      have keep : ∀ {dj p'}, cj.held = some dj → v = some (.ref p') → OwnAt K F R H p' dj → OwnAt K (L2.upd F p (lk od o)) R (L2.upd H p (lk od o)) p' dj := fun {dj p'} h3 h4 q => by
        obtain ⟨o', e, q3⟩ := q.at_
        have ne : p' ≠ p := by
          intro z
          subst z
          rw [h4] at e2
          exact hj (r.inj i j _ cj d dj p' hc e1 rfl h3 hp e2)
        exact ⟨by rw [upd_ne ne]; exact q.nF, q.nR, o', by rw [upd_ne ne]; exact e, q3.mono le⟩
      cases cj with
      | no => trivial
      | fro _ => obtain ⟨x, e, q⟩ := q; exact ⟨x, e, q.mono le⟩
      | own dj => obtain ⟨p', e, q⟩ := q; exact ⟨p', e, keep rfl e q⟩
      | io dj => obtain ⟨p', e, q⟩ := q; exact ⟨p', e, keep rfl e q⟩
  · have old : ∀ {j : Nat} {cj : Cell} {dj : D}, (ρ.set i (.fro d))[j]? = some cj → cj.held = some dj → ρ[j]? = some cj := fun {j cj dj} e1 e2 => by
      by_cases hj : i = j
      · subst hj
        rw [List.getElem?_set_self hil] at e1
        cases e1; cases e2
      · rw [List.getElem?_set_ne hj] at e1; exact e1
    exact r.inj j k cj ck dj dk q (old h1 h3) (old h2 h4) h3 h4 h5 h6
  · obtain ⟨⟨d', e1⟩, e2⟩ := r.ios ip hip
    have hn : i ≠ ip.1 := fun e => by subst e; rw [hc] at e1; cases e1
    exact ⟨⟨d', by rw [List.getElem?_set_ne hn]; exact e1⟩, e2⟩
  · by_cases hj : i = j
    · subst hj
      rw [List.getElem?_set_self hil] at e
      cases e
    · rw [List.getElem?_set_ne hj] at e; exact r.ioc j d' e
end
end Dt

set_option Elab.async false
set_option linter.all false
set_option maxRecDepth 100000
set_option maxHeartbeats 2000000
/-! What code computes on plain data (the semantic side), and what it means that a piece of syntax computes it (the judgements). -/
namespace Dt
open PySem PySem.Spec PyProof.Rows L2

/-- an exception: the name of its class, what it bears -/
structure Exn where
  cls : String
  arg : D := .non
/-- a value with the environment behind it; an exception; anything that is not told -/
inductive R (α : Type) where
  | ok (a : α) (ρ : Env) | exc (x : Exn) (ρ : Env) | stuck
def R.bind {α β : Type} (r : R α) (f : α → Env → R β) : R β := match r with
  | .ok a ρ => f a ρ
  | .exc x ρ => .exc x ρ
  | .stuck => .stuck
@[simp] theorem R.bind_ok {α β : Type} {a : α} {ρ : Env} {f : α → Env → R β} : (R.ok a ρ).bind f = f a ρ := rfl
@[simp] theorem R.bind_exc {α β : Type} {x : Exn} {ρ : Env} {f : α → Env → R β} : (R.exc x ρ).bind f = .exc x ρ := rfl
@[simp] theorem R.bind_stuck {α β : Type} {f : α → Env → R β} : (R.stuck : R α).bind f = .stuck := rfl
/-- a def's end: its value and what it left in the lists that it was lent -/
inductive FR where
  | ok (d : D) (outs : List D) | exc (x : Exn) | stuck

abbrev SE := Env → R D
abbrev ST := Env → R Bool
abbrev SA := Env → R (List D)
inductive Fl where
  | nx | rt (d : D) | bk | ct
abbrev SS := Env → R Fl
abbrev SG := D → Env → R Unit
/-- an operand that is only looked at: a value, or a variable -/
inductive Opd where
  | val (d : D) | loc (i : Nat)
def Opd.get (ρ : Env) : Opd → Option D
  | .val d => some d
  | .loc i => (ρ[i]?).bind Cell.data
abbrev SO := Env → R Opd
abbrev SB := Env → R (List Opd)

/-- the context of a law: the written part, where the exception classes stand -/
structure Gx where
  K : PySem.W.Frag
  ex : String → Addr
def XR (G : Gx) (F : Hp) (x : Exn) (cls : Value) (dd : Option Addr) (H : Hp) : Prop :=
  cls = .ref (G.ex x.cls) ∧ match x.arg with
    | .non => dd = none
    | d => ∃ p v, dd = some p ∧ F p = none ∧ H p = some (.xd [("most", v)]) ∧ Rp G.K F v d

def XPost (G : Gx) (W : WX) (io : Io) (Rv : Hp) (F : Hp) (ρ : Env) (x : Exn) : Prop :=
  ∀ cls dd σ' H' F', FLe F F' → Rel G.K io Rv ρ F' σ' H' → XR G F' x cls dd H' → W cls dd σ' H'
def EPost (G : Gx) (io : Io) (Rv : Hp) (F : Hp) (σ : L2.St) (ρ : Env) (d : D) (Q : VK) : Prop :=
  ∀ v H' F', FLe F F' → Rel G.K io Rv ρ F' σ H' → Rp G.K F' v d → Q v H'
def OpdOk (K : PySem.W.Frag) (F : Hp) (σ : L2.St) (v : V) : Opd → Prop
  | .val d => Rp K F v d
  | .loc i => σ[i]? = some (some v)
inductive OpdsOk (K : PySem.W.Frag) (F : Hp) (σ : L2.St) : List V → List Opd → Prop
  | nil : OpdsOk K F σ [] []
  | cons {v : V} {vs : List V} {o : Opd} {os : List Opd} : OpdOk K F σ v o → OpdsOk K F σ vs os → OpdsOk K F σ (v :: vs) (o :: os)
theorem OpdOk.mono {K : PySem.W.Frag} {F G : Hp} (h : FLe F G) {σ : L2.St} {v : V} {o : Opd} (r : OpdOk K F σ v o) : OpdOk K G σ v o := by
  cases o with
  | val d => exact Rp.mono h r
  | loc i => exact r

def tE (G : Gx) (W : WX) (s : SE) : TE := fun σ H Q => ∃ ρ F Rv io, Rel G.K io Rv ρ F σ H ∧ match s ρ with
  | .ok d ρ' => EPost G io Rv F σ ρ' d Q
  | .exc x ρ' => XPost G W io Rv F ρ' x
  | .stuck => False
def tT (G : Gx) (W : WX) (s : ST) : TT := fun σ H Q => ∃ ρ F Rv io, Rel G.K io Rv ρ F σ H ∧ match s ρ with
  | .ok b ρ' => ∀ H' F', FLe F F' → Rel G.K io Rv ρ' F' σ H' → Q b H'
  | .exc x ρ' => XPost G W io Rv F ρ' x
  | .stuck => False
def tA (G : Gx) (W : WX) (s : SA) : TA := fun σ H Q => ∃ ρ F Rv io, Rel G.K io Rv ρ F σ H ∧ match s ρ with
  | .ok ds ρ' => ∀ vs H' F', FLe F F' → Rel G.K io Rv ρ' F' σ H' → Rps G.K F' vs ds → Q vs H'
  | .exc x ρ' => XPost G W io Rv F ρ' x
  | .stuck => False
def tO (G : Gx) (W : WX) (s : SO) : TE := fun σ H Q => ∃ ρ F Rv io, Rel G.K io Rv ρ F σ H ∧ match s ρ with
  | .ok o ρ' => ∀ v H' F', FLe F F' → Rel G.K io Rv ρ' F' σ H' → OpdOk G.K F' σ v o → Q v H'
  | .exc x ρ' => XPost G W io Rv F ρ' x
  | .stuck => False
def tB (G : Gx) (W : WX) (s : SB) : TA := fun σ H Q => ∃ ρ F Rv io, Rel G.K io Rv ρ F σ H ∧ match s ρ with
  | .ok os ρ' => ∀ vs H' F', FLe F F' → Rel G.K io Rv ρ' F' σ H' → OpdsOk G.K F' σ vs os → Q vs H'
  | .exc x ρ' => XPost G W io Rv F ρ' x
  | .stuck => False
/-- a new object that nobody else holds -/
def tF (G : Gx) (W : WX) (s : SE) : TE := fun σ H Q => ∃ ρ F Rv io, Rel G.K io Rv ρ F σ H ∧ match s ρ with
  | .ok d ρ' => ∀ p H' F', FLe F F' → Rel G.K io Rv ρ' F' σ H' → OwnAt G.K F' Rv H' p d → Loose ρ' σ p → Q (.ref p) H'
  | .exc x ρ' => XPost G W io Rv F ρ' x
  | .stuck => False
def SPost (G : Gx) (W : WX) (io : Io) (Rv F : Hp) (r : R Fl) (D : Ends) : Prop := match r with
  | .ok .nx ρ' => ∀ σ' H' F', FLe F F' → Rel G.K io Rv ρ' F' σ' H' → D.nx σ' H'
  | .ok .bk ρ' => ∀ σ' H' F', FLe F F' → Rel G.K io Rv ρ' F' σ' H' → D.bk σ' H'
  | .ok .ct ρ' => ∀ σ' H' F', FLe F F' → Rel G.K io Rv ρ' F' σ' H' → D.ct σ' H'
  | .ok (.rt d) ρ' => ∀ v σ' H' F', FLe F F' → Rel G.K io Rv ρ' F' σ' H' → Rp G.K F' v d → D.rt v H'
  | .exc x ρ' => XPost G W io Rv F ρ' x
  | .stuck => False
def tS (G : Gx) (W : WX) (s : SS) : TS := fun D σ H => ∃ ρ F Rv io, Rel G.K io Rv ρ F σ H ∧ SPost G W io Rv F (s ρ) D
/-- only the slots js differ -/
def Keeps (js : List Nat) (σ σ' : L2.St) : Prop := σ'.length = σ.length ∧ ∀ j, j ∉ js → σ'[j]? = σ[j]?
/-- a target: what it is given is frozen; js: the slots that it may change -/
def tG (G : Gx) (W : WX) (js : List Nat) (s : SG) : TG := fun v σ H Q => ∃ d ρ F Rv io, Rel G.K io Rv ρ F σ H ∧ Rp G.K F v d ∧ match s d ρ with
  | .ok _ ρ' => ∀ σ' H' F', FLe F F' → Rel G.K io Rv ρ' F' σ' H' → Keeps js σ σ' → Q σ' H'
  | .exc x ρ' => XPost G W io Rv F ρ' x
  | .stuck => False

theorem wkE {X : Cx} {e : Expr} {t u : TE} (h : PE X e t) (w : ∀ σ H Q, u σ H Q → t σ H Q) : PE X e u := ⟨fun pins s σ H Q I q => h.run pins s σ H Q I (w σ H Q q)⟩
theorem wkT {X : Cx} {e : Expr} {t u : TT} (h : PT X e t) (w : ∀ σ H Q, u σ H Q → t σ H Q) : PT X e u := ⟨fun pins s σ H Q I q => h.run pins s σ H Q I (w σ H Q q)⟩
theorem wkA {X : Cx} {e : List Expr} {t u : TA} (h : PA X e t) (w : ∀ σ H Q, u σ H Q → t σ H Q) : PA X e u := ⟨fun pos pins s σ H Q I q => h.run pos pins s σ H Q I (w σ H Q q)⟩
theorem wkS {X : Cx} {e : Stmt} {t u : TS} (h : PS X e t) (w : ∀ D σ H, u D σ H → t D σ H) : PS X e u := ⟨fun pins s σ H D I q => h.run pins s σ H D I (w D σ H q)⟩
theorem wkSs {X : Cx} {e : List Stmt} {t u : TS} (h : PSs X e t) (w : ∀ D σ H, u D σ H → t D σ H) : PSs X e u := ⟨fun pins s σ H D I q => h.run pins s σ H D I (w D σ H q)⟩

/-- an expression's value, locked behind it -/
def tLk (t : TE) : TE := fun σ H Q => t σ H fun v H' => Q v H' ∨ ∃ p o, v = .ref p ∧ H' p = some o ∧ Lkb o ∧ ∀ od, Q v (L2.upd H' p (lk od o))
theorem pe_lk {X : Cx} {e : Expr} {t : TE} (h : PE X e t) : PE X e (tLk t) := ⟨fun pins s σ H Q I q => thn (h.run pins s σ H _ I q) fun v s1 ⟨x, H1, I1, r, q1⟩ => by
  rcases q1 with q1 | ⟨p, o, rfl, e1, l, q1⟩
  · exact ⟨x, H1, I1, r, q1⟩
  · rcases l with ⟨xs, rfl⟩ | ⟨kvs, rfl⟩ | ⟨φ, rfl⟩
    · have e2 : L2.upd H1 p (.lst xs) = H1 := by
        funext a
        by_cases z : a = p
        · subst z; rw [upd_same, e1]
        · rw [upd_ne z]
      obtain ⟨od, _⟩ := I1.lock e1 trivial
      exact ⟨_, H1, I1, r, by have q2 := q1 od; rw [lk_lst, e2] at q2; exact q2⟩
    · obtain ⟨od, I2⟩ := I1.lock e1 trivial
      exact ⟨_, _, I2, r, q1 od⟩
    · obtain ⟨od, I2⟩ := I1.lock e1 trivial
      exact ⟨_, _, I2, r, q1 od⟩⟩
/-- where one stands: the law's context, the wish of exceptions -/
structure At (X : Cx) (W : WX) : Prop where
  calm : X.calm = true
  nd : X.N.Nodup
  un : X.A.units + 64 < cLine
  tk : Takes X W

abbrev DE (G : Gx) (X : Cx) (W : WX) (e : Expr) (s : SE) : Prop := PE X e (tE G W s)
abbrev DT (G : Gx) (X : Cx) (W : WX) (e : Expr) (s : ST) : Prop := PT X e (tT G W s)
abbrev DA (G : Gx) (X : Cx) (W : WX) (e : List Expr) (s : SA) : Prop := PA X e (tA G W s)
abbrev DO (G : Gx) (X : Cx) (W : WX) (e : Expr) (s : SO) : Prop := PE X e (tO G W s)
abbrev DB (G : Gx) (X : Cx) (W : WX) (e : List Expr) (s : SB) : Prop := PA X e (tB G W s)
abbrev DF (G : Gx) (X : Cx) (W : WX) (e : Expr) (s : SE) : Prop := PE X e (tF G W s)
abbrev DS (G : Gx) (X : Cx) (W : WX) (e : Stmt) (s : SS) : Prop := PS X e (tS G W s)
abbrev DSs (G : Gx) (X : Cx) (W : WX) (e : List Stmt) (s : SS) : Prop := PSs X e (tS G W s)
abbrev DG (G : Gx) (X : Cx) (W : WX) (js : List Nat) (e : Expr) (s : SG) : Prop := PG X e (tG G W js s)

section
variable {G : Gx} {W : WX} {io : Io} {Rv F F' F1 : Hp} {ρ ρ' : Env} {σ : L2.St} {H H' : Hp}
theorem XPost.le {x : Exn} (h : XPost G W io Rv F ρ x) (le : FLe F F1) : XPost G W io Rv F1 ρ x := fun cls dd σ' H' F' l => h cls dd σ' H' F' (le.trans l)
theorem EPost.le {d : D} {Q : VK} (h : EPost G io Rv F σ ρ d Q) (le : FLe F F1) : EPost G io Rv F1 σ ρ d Q := fun v H' F' l => h v H' F' (le.trans l)

/-! ### the views of operands -/
def Vw (K : PySem.W.Frag) (F H : Hp) (v : V) (d : D) : Prop := Rp K F v d ∨ ∃ p o, v = .ref p ∧ H p = some o ∧ OwnObj K F p o d
inductive Vws (K : PySem.W.Frag) (F H : Hp) : List V → List D → Prop
  | nil : Vws K F H [] []
  | cons {v : V} {vs : List V} {d : D} {ds : List D} : Vw K F H v d → Vws K F H vs ds → Vws K F H (v :: vs) (d :: ds)
theorem Rel.view (r : Rel G.K io Rv ρ F σ H) {v : V} {o : Opd} {d : D} (h : OpdOk G.K F σ v o) (e : o.get ρ = some d) : Vw G.K F H v d := by
  cases o with
  | val d' => cases e; exact .inl h
  | loc i =>
    have e : (ρ[i]?).bind Cell.data = some d := e
    cases ec : ρ[i]? with
    | none => rw [ec] at e; cases e
    | some c =>
      rw [ec] at e
      have e' : c.data = some d := e
      have q := r.cell i c _ ec h
      cases c with
      | no => cases e'
      | fro _ => cases e'; obtain ⟨x, ex, q⟩ := q; cases ex; exact .inl q
      | own _ => cases e'; obtain ⟨p, ex, q⟩ := q; cases ex; obtain ⟨o, h1, h2⟩ := q.at_; exact .inr ⟨p, o, rfl, h1, h2⟩
      | io _ => cases e'; obtain ⟨p, ex, q⟩ := q; cases ex; obtain ⟨o, h1, h2⟩ := q.at_; exact .inr ⟨p, o, rfl, h1, h2⟩
def getAll (ρ : Env) : List Opd → Option (List D)
  | [] => some []
  | o :: os => (o.get ρ).bind fun d => (getAll ρ os).map fun ds => d :: ds
theorem Rel.views (r : Rel G.K io Rv ρ F σ H) : ∀ {vs : List V} {os : List Opd} {ds : List D}, OpdsOk G.K F σ vs os → getAll ρ os = some ds → Vws G.K F H vs ds
  | _, _, _, .nil, e => by cases e; exact .nil
  | _, _, _, .cons (o := o) (os := os) a b, e => by
    unfold getAll at e
    cases e1 : o.get ρ with
    | none => rw [e1] at e; cases e
    | some d =>
      cases e2 : getAll ρ os with
      | none => rw [e1, e2] at e; cases e
      | some ds => rw [e1, e2] at e; cases e; exact .cons (r.view a e1) (r.views b e2)
theorem Vw.sqT {K : PySem.W.Frag} (fh : FLe F H) {v : V} {ds : List D} (h : Vw K F H v (.tup ds)) : ∃ a xs, v = .ref a ∧ SqT K H a xs ∧ Rps K F xs ds := by
  rcases h with h | ⟨p, o, _, _, h⟩
  · cases h with
    | tup t r => exact ⟨_, _, rfl, fh.sqT t.sq, r⟩
  · exact h.elim
theorem Vw.argT {K : PySem.W.Frag} (fh : FLe F H) {v : V} {ds : List D} (h : Vw K F H v (.arg ds)) : ∃ a xs, v = .ref a ∧ SqT K H a xs ∧ Rps K F xs ds := by
  rcases h with h | ⟨p, o, _, _, h⟩
  · cases h with
    | arg t r => exact ⟨_, _, rfl, fh.sqT t, r⟩
  · exact h.elim
theorem Vw.lst {K : PySem.W.Frag} (fh : FLe F H) {v : V} {ds : List D} (h : Vw K F H v (.lst ds)) : ∃ a xs, v = .ref a ∧ H a = some (.lst xs) ∧ Rps K F xs ds := by
  rcases h with h | ⟨p, o, e, h1, xs, rfl, r⟩
  · cases h with
    | lst t r => exact ⟨_, _, rfl, fh _ _ t, r⟩
  · exact ⟨p, xs, e, h1, r⟩
theorem Vw.dct {K : PySem.W.Frag} (fh : FLe F H) {v : V} {ks : List Key} {ds : List D} (h : Vw K F H v (.dct ks ds)) : ∃ a kvs, v = .ref a ∧ Rd H a (.dK kvs) ∧ kvs.map (·.1) = ks ∧ Rps K F (kvs.map (·.2)) ds := by
  rcases h with h | ⟨p, o, e, h1, kvs, rfl, e2, r⟩
  · cases h with
    | dct t r => exact ⟨_, _, rfl, .inr ⟨_, fh _ _ t⟩, rfl, r⟩
  · exact ⟨p, kvs, e, .inl h1, e2, r⟩
theorem Vw.int {K : PySem.W.Frag} {v : V} {i : Int} (h : Vw K F H v (.int i)) : v = .int i := by
  rcases h with h | ⟨p, o, _, _, h⟩
  · cases h; rfl
  · exact h.elim
theorem Vw.bl {K : PySem.W.Frag} {v : V} {i : Bool} (h : Vw K F H v (.bl i)) : v = .bl i := by
  rcases h with h | ⟨p, o, _, _, h⟩
  · cases h; rfl
  · exact h.elim
theorem Vw.str {K : PySem.W.Frag} {v : V} {i : Str} (h : Vw K F H v (.str i)) : v = .str i := by
  rcases h with h | ⟨p, o, _, _, h⟩
  · cases h; rfl
  · exact h.elim
theorem Vw.non {K : PySem.W.Frag} {v : V} (h : Vw K F H v .non) : v = .non := by
  rcases h with h | ⟨p, o, _, _, h⟩
  · cases h; rfl
  · exact h.elim
theorem Vws.one {K : PySem.W.Frag} {vs : List V} {d : D} (h : Vws K F H vs [d]) : ∃ v, vs = [v] ∧ Vw K F H v d := by
  cases h with
  | cons a b => cases b; exact ⟨_, rfl, a⟩
theorem Vws.two {K : PySem.W.Frag} {vs : List V} {d e : D} (h : Vws K F H vs [d, e]) : ∃ v w, vs = [v, w] ∧ Vw K F H v d ∧ Vw K F H w e := by
  cases h with
  | cons a b => cases b with
    | cons b c => cases c; exact ⟨_, _, rfl, a, b⟩

/-! ### operations by values -/
/-- behind an operation: more is there, what is frozen of it is new -/
structure New (F H F' H' : Hp) : Prop where
  f : FLe F F'
  h : FLe H H'
  fh : FLe F' H'
  new : ∀ a o, F' a = some o → F a = some o ∨ H a = none
theorem New.refl (fh : FLe F H) : New F H F H := ⟨FLe.refl F, FLe.refl H, fh, fun _ _ e => .inl e⟩
theorem Rel.after {K : PySem.W.Frag} (r : Rel K io Rv ρ F σ H) (n : New F H F' H') : Rel K io Rv ρ F' σ H' := r.grow n.f n.h n.fh n.new
theorem New.obj (fh : FLe F H) {p : Addr} (n : H p = none) (o : HO) : New F H (upd F p o) (upd H p o) := by
  refine ⟨FLe.upd o (fh.noneOf n), FLe.upd o n, fun a u e => ?_, fun a u e => ?_⟩
  · by_cases h : a = p
    · subst h; rw [upd_same] at e ⊢; exact e
    · rw [upd_ne h] at e ⊢; exact fh a u e
  · by_cases h : a = p
    · subst h; exact .inr n
    · rw [upd_ne h] at e; exact .inl e
abbrev RL := List V → Hp → VK → Prop
/-- the rule r computes g on operands that are looked at -/
def PSem (G : Gx) (r : RL) (g : List D → Option D) : Prop := ∀ F H vs ds d (Q : VK), FLe F H → Vws G.K F H vs ds → g ds = some d → (∀ v H' F', New F H F' H' → Rp G.K F' v d → Q v H') → r vs H Q
/-- .. a new object -/
def FSem (G : Gx) (r : RL) (g : List D → Option D) : Prop := ∀ F H vs ds d (Q : VK), FLe F H → Vws G.K F H vs ds → g ds = some d → (∀ p o, H p = none → OwnObj G.K F p o d → Q (.ref p) (upd H p o)) → r vs H Q
theorem FSem.pure {r : RL} {g : List D → Option D} (h : FSem G r g) (hl : ∀ ds d, g ds = some d → ∃ xs, d = .lst xs) : PSem G r g := fun F H vs ds d Q fh vw e q => h F H vs ds d Q fh vw e fun p o n ob => by
  obtain ⟨xs, rfl⟩ := hl ds d e
  obtain ⟨ys, rfl, r⟩ := ob
  exact q _ _ _ (New.obj fh n _) (.lst upd_same (r.mono (FLe.upd _ (fh.noneOf n))))
end

/-! ### expressions -/
section
variable {G : Gx} {X : Cx} {W : WX}
def sCst (d : D) : SE := fun ρ => .ok d ρ
theorem d_cst {e : Expr} {v : V} {d : D} (h : PE X e (tC v)) (r : ∀ F, Rp G.K F v d) : DE G X W e (sCst d) := wkE h fun σ H Q ⟨ρ, F, Rv, io, rel, q⟩ => q v H F (FLe.refl F) rel (r F)
theorem d_int {i j pos} : DE G X W (.Constant (.int i) j pos) (sCst (.int i)) := d_cst pe_int fun _ => .int i
theorem d_bl {i j pos} : DE G X W (.Constant (.bool i) j pos) (sCst (.bl i)) := d_cst pe_bl fun _ => .bl i
theorem d_non {j pos} : DE G X W (.Constant .none j pos) (sCst .non) := d_cst pe_non fun _ => .non
theorem d_str {i j pos} : DE G X W (.Constant (.str i) j pos) (sCst (.str i)) := d_cst pe_str fun _ => .str i
/-- a variable: its own object is frozen -/
def sVar (i : Nat) : SE := fun ρ => match ρ[i]? with
  | some (.fro d) => .ok d ρ
  | some (.own d) => .ok d (ρ.set i (.fro d))
  | _ => .stuck
theorem d_var {e : Expr} {i : Nat} (h : PE X e (tVar i)) : DE G X W e (sVar i) := wkE (pe_lk h) fun σ H Q ⟨ρ, F, Rv, io, rel, q⟩ => by
  unfold sVar at q
  cases e : ρ[i]? with
  | none => rw [e] at q; exact q.elim
  | some c =>
    rw [e] at q
    obtain ⟨v, e2, ok⟩ := rel.slot e
    cases c with
    | no => exact q.elim
    | io _ => exact q.elim
    | fro d =>
      obtain ⟨x, rfl, r⟩ := ok
      exact ⟨x, e2, .inl (q x H F (FLe.refl F) rel r)⟩
    | own d =>
      obtain ⟨p, rfl, w⟩ := ok
      obtain ⟨o, h1, h2⟩ := w.at_
      refine ⟨_, e2, .inr ⟨p, o, rfl, h1, h2.lkb, fun od => ?_⟩⟩
      obtain ⟨le, rel', rp⟩ := rel.freeze e e2 h1 h2 od
      exact q _ _ _ le rel' rp
/-- looked at -/
def sLoc (i : Nat) : SO := fun ρ => match ρ[i]? with
  | some .no => .stuck
  | none => .stuck
  | _ => .ok (.loc i) ρ
theorem d_loc {e : Expr} {i : Nat} (h : PE X e (tVar i)) : DO G X W e (sLoc i) := wkE h fun σ H Q ⟨ρ, F, Rv, io, rel, q⟩ => by
  unfold sLoc at q
  cases e : ρ[i]? with
  | none => rw [e] at q; exact q.elim
  | some c =>
    rw [e] at q
    obtain ⟨v, e2, ok⟩ := rel.slot e
    cases c with
    | no => exact q.elim
    | io d => obtain ⟨p, rfl, w⟩ := ok; exact ⟨_, e2, q _ H F (FLe.refl F) rel e2⟩
    | fro d => obtain ⟨x, rfl, r⟩ := ok; exact ⟨_, e2, q _ H F (FLe.refl F) rel e2⟩
    | own d => obtain ⟨p, rfl, w⟩ := ok; exact ⟨_, e2, q _ H F (FLe.refl F) rel e2⟩
def sVal (s : SE) : SO := fun ρ => (s ρ).bind fun d ρ' => .ok (.val d) ρ'
theorem d_val {e : Expr} {s : SE} (h : DE G X W e s) : DO G X W e (sVal s) := wkE h fun σ H Q ⟨ρ, F, Rv, io, rel, q⟩ => by
  refine ⟨ρ, F, Rv, io, rel, ?_⟩
  unfold sVal at q
  cases e : s ρ with
  | stuck => rw [e] at q; exact q.elim
  | exc x ρ' => rw [e] at q; exact q
  | ok d ρ' => rw [e] at q; exact fun v H' F' le rel' r => q v H' F' le rel' r

def sNil : SA := fun ρ => .ok [] ρ
def sCons (s : SE) (t : SA) : SA := fun ρ => (s ρ).bind fun d ρ1 => (t ρ1).bind fun ds ρ2 => .ok (d :: ds) ρ2
theorem d_nil : DA G X W [] sNil := wkA pa_nil fun σ H Q ⟨ρ, F, Rv, io, rel, q⟩ => q [] H F (FLe.refl F) rel .nil
theorem d_cons {e : Expr} {es : List Expr} {s : SE} {t : SA} (h : DE G X W e s) (ht : DA G X W es t) (hs : starEach (e :: es) X.env = (false, eval e X.env) :: starEach es X.env := by rfl) : DA G X W (e :: es) (sCons s t) :=
  wkA (pa_cons h ht hs) fun σ H Q ⟨ρ, F, Rv, io, rel, q⟩ => by
    refine ⟨ρ, F, Rv, io, rel, ?_⟩
    unfold sCons at q
    cases e : s ρ with
    | stuck => rw [e] at q; exact q.elim
    | exc x ρ' => rw [e] at q; exact q
    | ok d ρ' =>
      rw [e] at q
      refine fun v H' F' le rel' r => ⟨ρ', F', Rv, io, rel', ?_⟩
      rw [R.bind_ok] at q
      cases e2 : t ρ' with
      | stuck => rw [e2] at q; exact q.elim
      | exc x ρ'' => rw [e2] at q; exact XPost.le q le
      | ok ds ρ'' => rw [e2] at q; exact fun vs H2 F2 le2 rel2 r2 => q (v :: vs) H2 F2 (le.trans le2) rel2 (.cons (r.mono le2) r2)
def bNil : SB := fun ρ => .ok [] ρ
def bCons (s : SO) (t : SB) : SB := fun ρ => (s ρ).bind fun d ρ1 => (t ρ1).bind fun ds ρ2 => .ok (d :: ds) ρ2
theorem d_bnil : DB G X W [] bNil := wkA pa_nil fun σ H Q ⟨ρ, F, Rv, io, rel, q⟩ => q [] H F (FLe.refl F) rel .nil
theorem d_bcons {e : Expr} {es : List Expr} {s : SO} {t : SB} (h : DO G X W e s) (ht : DB G X W es t) (hs : starEach (e :: es) X.env = (false, eval e X.env) :: starEach es X.env := by rfl) : DB G X W (e :: es) (bCons s t) :=
  wkA (pa_cons h ht hs) fun σ H Q ⟨ρ, F, Rv, io, rel, q⟩ => by
    refine ⟨ρ, F, Rv, io, rel, ?_⟩
    unfold bCons at q
    cases e : s ρ with
    | stuck => rw [e] at q; exact q.elim
    | exc x ρ' => rw [e] at q; exact q
    | ok d ρ' =>
      rw [e] at q
      refine fun v H' F' le rel' r => ⟨ρ', F', Rv, io, rel', ?_⟩
      rw [R.bind_ok] at q
      cases e2 : t ρ' with
      | stuck => rw [e2] at q; exact q.elim
      | exc x ρ'' => rw [e2] at q; exact XPost.le q le
      | ok ds ρ'' => rw [e2] at q; exact fun vs H2 F2 le2 rel2 r2 => q (v :: vs) H2 F2 (le.trans le2) rel2 (.cons (r.mono le2) r2)

/-- an operation on operands that are looked at -/
def ofO {α : Type} (o : Option α) (ρ : Env) : R α := match o with
  | some a => .ok a ρ
  | none => .stuck
def sOps (g : List D → Option D) (s : SB) : SE := fun ρ => (s ρ).bind fun os ρ' => ofO ((getAll ρ' os).bind g) ρ'
def b1 (s : SO) : SB := bCons s bNil
def b2 (s t : SO) : SB := bCons s (bCons t bNil)
/-- a list of operands behind a rule by values -/
theorem ops_core {r : RL} {g : List D → Option D} (hg : PSem G r g) {s : SB} {σ : L2.St} {H : Hp} {Q : VK} (h : tE G W (sOps g s) σ H Q) : tB G W s σ H fun vs H' => r vs H' Q := by
  obtain ⟨ρ, F, Rv, io, rel, q⟩ := h
  refine ⟨ρ, F, Rv, io, rel, ?_⟩
  unfold sOps at q
  cases e : s ρ with
  | stuck => rw [e] at q; exact q.elim
  | exc x ρ' => rw [e] at q; exact q
  | ok os ρ' =>
    rw [e, R.bind_ok] at q
    refine fun vs H' F' le rel' ok => ?_
    cases e2 : getAll ρ' os with
    | none => rw [e2] at q; exact q.elim
    | some ds =>
      rw [e2, Option.bind_some] at q
      cases e3 : g ds with
      | none => rw [e3] at q; exact q.elim
      | some d =>
        rw [e3] at q
        exact hg F' H' vs ds d Q rel'.fH (rel'.views ok e2) e3 fun v H2 F2 n rp => q v H2 F2 (le.trans n.f) (rel'.after n) rp
theorem opsF_core {r : RL} {g : List D → Option D} (hg : FSem G r g) {s : SB} {σ : L2.St} {H : Hp} {Q : VK} (h : tF G W (sOps g s) σ H Q) : tB G W s σ H fun vs H' => r vs H' Q := by
  obtain ⟨ρ, F, Rv, io, rel, q⟩ := h
  refine ⟨ρ, F, Rv, io, rel, ?_⟩
  unfold sOps at q
  cases e : s ρ with
  | stuck => rw [e] at q; exact q.elim
  | exc x ρ' => rw [e] at q; exact q
  | ok os ρ' =>
    rw [e, R.bind_ok] at q
    refine fun vs H' F' le rel' ok => ?_
    cases e2 : getAll ρ' os with
    | none => rw [e2] at q; exact q.elim
    | some ds =>
      rw [e2, Option.bind_some] at q
      cases e3 : g ds with
      | none => rw [e3] at q; exact q.elim
      | some d =>
        rw [e3] at q
        refine hg F' H' vs ds d Q rel'.fH (rel'.views ok e2) e3 fun p o n ob => ?_
        have nF : F' p = none := rel'.fH.noneOf n
        have nR : Rv p = none := rel'.rH.noneOf n
        exact q p _ F' le (rel'.newH n o) ⟨nF, nR, o, upd_same, ob⟩ (rel'.loose n)
/-- two operands, one after the other -/
theorem two_core {a b : Expr} {sa sb : SO} {σ : L2.St} {H : Hp} {k : List V → Hp → Prop} (h : tB G W (b2 sa sb) σ H k) : tO G W sa σ H fun x H1 => tO G W sb σ H1 fun y H2 => k [x, y] H2 := by
  obtain ⟨ρ, F, Rv, io, rel, q⟩ := h
  refine ⟨ρ, F, Rv, io, rel, ?_⟩
  unfold b2 bCons at q
  cases e : sa ρ with
  | stuck => rw [e] at q; exact q.elim
  | exc x ρ' => rw [e] at q; exact q
  | ok o ρ' =>
    rw [e, R.bind_ok] at q
    refine fun v H' F' le rel' r => ⟨ρ', F', Rv, io, rel', ?_⟩
    cases e2 : sb ρ' with
    | stuck => rw [e2] at q; exact q.elim
    | exc x ρ'' => rw [e2] at q; exact XPost.le q le
    | ok o2 ρ'' =>
      rw [e2] at q
      exact fun w H2 F2 le2 rel2 r2 => q [v, w] H2 F2 (le.trans le2) rel2 (.cons (r.mono le2) (.cons r2 .nil))
theorem one_core {sa : SO} {σ : L2.St} {H : Hp} {k : List V → Hp → Prop} (h : tB G W (b1 sa) σ H k) : tO G W sa σ H fun x H1 => k [x] H1 := by
  obtain ⟨ρ, F, Rv, io, rel, q⟩ := h
  refine ⟨ρ, F, Rv, io, rel, ?_⟩
  unfold b1 bCons at q
  cases e : sa ρ with
  | stuck => rw [e] at q; exact q.elim
  | exc x ρ' => rw [e] at q; exact q
  | ok o ρ' =>
    rw [e, R.bind_ok] at q
    exact fun v H' F' le rel' r => q [v] H' F' le rel' (.cons r .nil)
def r2L (r : R2) : RL := fun vs H Q => ∃ x y, vs = [x, y] ∧ r x y H Q
theorem d_bin {a b : Expr} {op : Operator} {pos : Pos} {r : R2} {g : List D → Option D} {sa sb : SO} (ho : OpR X (binaryOp op) r) (hg : PSem G (r2L r) g) (ha : DO G X W a sa) (hb : DO G X W b sb) : DE G X W (.BinOp a op b pos) (sOps g (b2 sa sb)) :=
  wkE (pe_op ho ha hb) fun σ H Q h => by
    have z := two_core (a := a) (b := b) (ops_core hg h)
    obtain ⟨ρ, F, Rv, io, rel, q⟩ := z
    refine ⟨ρ, F, Rv, io, rel, ?_⟩
    revert q
    cases sa ρ with
    | stuck => exact fun q => q
    | exc x ρ' => exact fun q => q
    | ok o ρ' =>
      intro q v H' F' le rel' r'
      obtain ⟨ρ2, F2, Rv2, io2, rel2, q2⟩ := q v H' F' le rel' r'
      refine ⟨ρ2, F2, Rv2, io2, rel2, ?_⟩
      revert q2
      cases sb ρ2 with
      | stuck => exact fun q => q
      | exc x ρ' => exact fun q => q
      | ok o ρ' =>
        intro q2 w H3 F3 le3 rel3 r3
        obtain ⟨x, y, e, z⟩ := q2 w H3 F3 le3 rel3 r3
        cases e
        exact z
end
end Dt

set_option Elab.async false
set_option linter.all false
set_option maxRecDepth 100000
set_option maxHeartbeats 4000000
/-! Rules that make tuples, the new object told whole: so it is known to have no dictionary of its own (dict(t) asks). -/
namespace Dt
open PySem PySem.Spec PyProof.Rows L2
abbrev tupO (its : List Value) : Obj := { cls := .type "tuple", data := .seq its.toArray }
/-- the new tuple at p -/
def NewT (H : Hp) (xs : List V) (Q : VK) : Prop := ∀ p o, H p = none → o.dict = none → Q (.ref p) (upd H p (.frz o (.tup xs)))
section
variable {X : Cx} {pins : List (Addr × Obj)} {σ : L2.St} {H : Hp} {s : Shared}
theorem frz_ok {P : Program} {w : World} {H : Hp} {h : Heap} {its : List Value} {xs : List V} (z : xs.length ≤ sizeLine) (r : Vals xs its) : ObjOk P w H (h.push (tupO its)) h.objs.size (.frz (tupO its) (.tup xs)) :=
  ⟨Heap.get?_push_size _ rfl, z, its, r, IsTup.new _ _⟩
theorem made {its : List Value} {xs : List V} {Q : VK} (I : Inv X pins σ H s) (r : Vals xs its) (z : xs.length ≤ sizeLine) (q : NewT H xs Q) : EP X pins σ Q (.ref s.heap.objs.size) { s with heap := s.heap.push (tupO its) } :=
  ⟨.ref s.heap.objs.size, _, I.laid (t' := s.toks) (o := .frz (tupO its) (.tup xs)) (fun b ob e => Heap.get?_push_of_some _ e) (Nat.le_refl _) (frz_ok z r), rfl, q _ _ (I.hok.fresh (Nat.le_refl _)) rfl⟩
/-- (a, b, ..) -/
def tTupZ (t : TA) : TE := fun σ H Q => t σ H fun xs H1 => xs.length ≤ sizeLine ∧ NewT H1 xs Q
theorem pe_tupZ {es : List Expr} {t : TA} {x1 : Nat} {pos : Pos} (h : PA X es t) : PE X (.Tuple es x1 pos) (tTupZ t) :=
  ⟨fun pins s σ H Q I hq => wpAny_Tuple_spliced (thn (h.run pos pins s σ H _ I hq) fun us s1 ⟨xs, H1, I1, r, z, q⟩ => ⟨by rw [← r.length]; exact z, made I1 r z q⟩)⟩
/-- t + u -/
def rCatZ (K : PySem.W.Frag) : R2 := fun x y H Q => ∃ (a b : Addr) (xs ys : List V), x = V.ref a ∧ y = V.ref b ∧ SqT K H a xs ∧ SqT K H b ys ∧ xs.length + ys.length ≤ sizeLine ∧ (xs = [] → Q (.ref b) H) ∧ (xs ≠ [] → ys = [] → Q (.ref a) H) ∧ (xs ≠ [] → ys ≠ [] → NewT H (xs ++ ys) Q)
theorem op_catZ : OpR X (binaryOp .Add) (rCatZ X.K) := by
  intro pins s σ H x y v u Q I rx ry ⟨a, b, xs, ys, ex, ey, ha, hb, hz, q0, q1, q2⟩
  subst ex ey
  by_cases hx : xs = []
  · exact op_catA pins s σ H _ _ v u Q I rx ry ⟨a, b, xs, ys, rfl, rfl, ha, hb, hz, q0, q1, fun n => absurd hx n⟩
  · cases rx; cases ry
    obtain ⟨its, r1, p1, _⟩ := I.tuple ha
    obtain ⟨its2, r2, p2, _⟩ := I.tuple hb
    exact HT.cat_tup p1 p2 (fun z => hx (r1.nil_iff.mp z)) (fun z => ⟨.ref a, H, I, rfl, q1 hx (r2.nil_iff.mp z)⟩) (fun z => made I (r1.append r2) (by rw [List.length_append]; exact hz) (q2 hx fun w => z (r2.nil_iff.mpr w))) (by rw [← r1.length, ← r2.length]; exact hz)
/-- t[lo:hi] -/
def rSlZ (K : PySem.W.Frag) : V → Option Int → Option Int → Hp → VK → Prop := fun x lo hi H Q => ∃ (a : Addr) (xs : List V), x = V.ref a ∧ SqT K H a xs ∧
  (HT.sIx xs.length 0 lo = 0 ∧ HT.sIx xs.length xs.length hi = xs.length → Q (.ref a) H) ∧ (¬ (HT.sIx xs.length 0 lo = 0 ∧ HT.sIx xs.length xs.length hi = xs.length) → NewT H (cutV xs lo hi) Q)
theorem sl_tupZ : SlR X (rSlZ X.K) := by
  intro pins s σ H x v vl vu lo hi sl Q I rx hs pl pu ⟨a, xs, ex, hx, q1, q2⟩
  subst ex
  by_cases hw : HT.sIx xs.length 0 lo = 0 ∧ HT.sIx xs.length xs.length hi = xs.length
  · exact sl_tupA pins s σ H _ v vl vu lo hi sl Q I rx hs pl pu ⟨a, xs, rfl, hx, q1, fun n => absurd hw n⟩
  · cases rx
    obtain ⟨its, r, ht, hz⟩ := I.tuple hx
    have hlen : its.toArray.size = xs.length := by rw [List.size_toArray]; exact r.length.symm
    refine ⟨"tuple", _, PyProof.Rows.slot_tuple_getitem.lookup, ht.typeIs, HT.getItem_tuple_cut ht hs pl pu (by rw [hlen]; exact hw) ?_ (by rw [hlen]; exact hz)⟩
    rw [hlen]
    exact made I ((r.drop (HT.sIx xs.length 0 lo)).take (HT.sIx xs.length xs.length hi - HT.sIx xs.length 0 lo)) (Nat.le_trans (cutV_length xs lo hi) hz) (q2 hw)
/-- tuple(x) -/
theorem call_tupleZ : CallR X (.type "tuple") (fun xs H Q => ∃ (p : Addr) (ys : List V), xs = [V.ref p] ∧ ((SqL X.K H p ys ∧ NewT H ys Q) ∨ (SqT X.K H p ys ∧ Q (.ref p) H))) := by
  intro pins s σ H xs us Q I r ⟨p, ys, ex, h⟩
  subst ex
  obtain ⟨u, eu, rx⟩ := vals1 r
  subst eu; cases rx
  rcases h with ⟨hq, q⟩ | ⟨hq, q⟩
  · obtain ⟨its, r', pl, hz⟩ := I.list hq
    have hlen := r'.length
    exact call_tuple_list pl.isList (fun h1 kp => made (s := { s with heap := h1 }) (I.kept (t' := s.toks) kp) r' hz q) (by simp only [List.size_toArray]; omega)
  · obtain ⟨its, r', pl, hz⟩ := I.tuple hq
    exact call_tuple_same pl ⟨.ref p, H, I, rfl, q⟩
/-- t * k -/
theorem tuple_mul1 (l : Addr) (items : Array Value) (n : Nat) (dd : Option Addr) (sl : Array (Option Value)) (u : Tok) :
    Meets (Builtin.«tuple.__mul__» ⟨[.ref l, .int 1 u], []⟩) (fun _ R s => s.heap.get? l = some { cls := .type "tuple", dict := dd, data := .seq items n, slots := sl } ∧ R (.ok (.ret (Value.ref l))) s) :=
  .of_wp fun prog w A R s h => by
    obtain ⟨hp, g, d, tk, os⟩ := s
    obtain ⟨hl, h⟩ := h
    have f1 := AutoSeq1.idx_int
    wp_walk using wpAny_loadPart' hl
    repeat (first
      | (refine wpAny_ite_false (decide_eq_false (by decide)) ?_; wp_walk using wpAny_loadPart' hl)
      | (refine wpAny_ite_true (decide_eq_true (by simp)) ?_; wp_walk using wpAny_loadPart' hl))
    exact ⟨_, rfl, h⟩
/-- t * 1: the same tuple -/
def rRep1 (K : PySem.W.Frag) : R2 := fun x y H Q => ∃ (l : Addr) (xs : List V), x = V.ref l ∧ y = V.int 1 ∧ SqT K H l xs ∧ Q (.ref l) H
theorem op_rep1 : OpR X (binaryOp .Mult) (rRep1 X.K) := by
  intro pins s σ H x y v u Q I rx ry ⟨l, xs, ex, ey, hT, q⟩
  subst ex ey
  cases rx
  obtain ⟨t, rfl⟩ := ry
  obtain ⟨its, r, ⟨⟨cls, dd, data, sl⟩, ho, hc, n, hd⟩, hs⟩ := I.tuple hT
  obtain rfl : cls = _ := hc
  obtain rfl : data = _ := hd
  exact wpAny_binaryOp_repeat_ref (T := "tuple") (U := "int") (by decide) ⟨_, ho, rfl⟩ (fun z => typeIs_int z 1 t) noFill_tuple_mul F.fills_int_mul F.slot_int_rmul repeat_tuple F.slot_int_index.lookup (call_meets F.slot_int_rmul (typeIs_int s 1 t) F.entry_int_rmul (F.args_int_rmul_2 _ _) (int_rmul_tuple 1 t l its.toArray n dd sl)
    ⟨ho, rfl, ⟨_, ho, rfl⟩, call_meets F.slot_tuple_mul ⟨_, ho, rfl⟩ F.entry_tuple_mul (F.args_tuple_mul_2 _ _) (tuple_mul1 l its.toArray n dd sl t) ⟨ho, ⟨.ref l, H, I, rfl, q⟩⟩⟩)
def rRepZ (K : PySem.W.Frag) : R2 := fun x y H Q => ∃ (l : Addr) (k : Int) (xs : List V), x = V.ref l ∧ y = V.int k ∧ SqT K H l xs ∧ xs ≠ [] ∧ 2 ≤ k ∧ k ≤ 1000 ∧ xs.length ≤ 1000 ∧ NewT H (List.replicate k.toNat xs).flatten Q
theorem rep_len {α : Type} {l : List α} {k : Int} (h1 : l.length ≤ 1000) (h2 : k ≤ 1000) : (List.replicate k.toNat l).flatten.length ≤ sizeLine := by
  have h3 : k.toNat * l.length ≤ 1000 * 1000 := Nat.mul_le_mul (by omega) h1
  rw [PyProof.Rows.lm_len_rep_flat, sizeLine_eq]; omega
theorem op_repZ : OpR X (binaryOp .Mult) (rRepZ X.K) := by
  intro pins s σ H x y v u Q I rx ry ⟨l, k, xs, ex, ey, hT, ne, h1, h2, hz, q⟩
  subst ex ey
  cases rx
  obtain ⟨t, rfl⟩ := ry
  obtain ⟨its, r, ⟨⟨cls, dd, data, sl⟩, ho, hc, n, hd⟩, hs⟩ := I.tuple hT
  obtain rfl : cls = _ := hc
  obtain rfl : data = _ := hd
  have le := r.length
  have full : its.toArray.isEmpty = false := by
    cases its with
    | nil => exact absurd (List.eq_nil_of_length_eq_zero le) ne
    | cons a b => rfl
  have sz : ((its.toArray.size : Nat) : Int) * k ≤ 1000 * k := Int.mul_le_mul_of_nonneg_right (by rw [List.size_toArray]; omega) (by omega)
  have b0 : (decide (k < -(2 ^ 63)) || decide (k ≥ 2 ^ 63)) = false := by simp; omega
  have b1 : (its.toArray.isEmpty || k == 1) = false := by rw [full, Bool.false_or]; exact beq_eq_false_iff_ne.mpr (by omega)
  have b2 : (decide (k ≤ 0) || its.toArray.isEmpty) = false := by rw [full, Bool.or_false]; exact decide_eq_false (by omega)
  have b3 : Builtin.Tuple.tupleTooMany (((its.toArray.size : Nat) : Int) * k) = false := by unfold Builtin.Tuple.tupleTooMany; rw [sizeLine_eq]; exact decide_eq_false (by omega)
  refine wpAny_binaryOp_repeat_ref (T := "tuple") (U := "int") (by decide) ⟨_, ho, rfl⟩ (fun z => typeIs_int z k t) noFill_tuple_mul F.fills_int_mul F.slot_int_rmul repeat_tuple F.slot_int_index.lookup (call_meets F.slot_int_rmul (typeIs_int s k t) F.entry_int_rmul (F.args_int_rmul_2 _ _) (int_rmul_tuple k t l its.toArray n dd sl)
    ⟨ho, rfl, ⟨_, ho, rfl⟩, call_meets F.slot_tuple_mul ⟨_, ho, rfl⟩ F.entry_tuple_mul (F.args_tuple_mul_2 _ _) (tuple_mulW l its.toArray n dd sl k t b0 b1 b2 (by omega) b3 (by rw [size_rep, List.size_toArray]; exact rep_len (by omega) h2)) ⟨ho, ?_⟩⟩)
  rw [size_rep]
  exact made I (r.rep k.toNat) (rep_len hz h2) q
end
end Dt

set_option Elab.async false
set_option linter.all false
set_option maxRecDepth 100000
set_option maxHeartbeats 2000000
/-! Operations by values: what they compute on plain data. -/
namespace Dt
open PySem PySem.Spec PyProof.Rows L2

mutual
def D.py : D → Option PyData
  | .non => some .none
  | .bl b => some (.bool b)
  | .int i => some (.int i)
  | .str s => some (.str s)
  | .tup ds => (D.pys ds).map .tuple
  | .lst ds => (D.pys ds).map .list
  | .dct _ _ => none
  | .scr _ => none
  | .arg _ => none
  | .fn _ => none
  | .nd _ _ => none
def D.pys : List D → Option (List PyData)
  | [] => some []
  | d :: ds => (D.py d).bind fun x => (D.pys ds).map fun xs => x :: xs
end
mutual
theorem Rp.dp {K : PySem.W.Frag} {F : Hp} : ∀ {v : V} {d : D} {e : PyData}, Rp K F v d → d.py = some e → Dp K F v e
  | _, _, _, .non, h => by simp only [D.py] at h; cases h; exact .non
  | _, _, _, .bl b, h => by simp only [D.py] at h; cases h; exact .bl b
  | _, _, _, .int b, h => by simp only [D.py] at h; cases h; exact .int b
  | _, _, _, .str b, h => by simp only [D.py] at h; cases h; exact .str b
  | _, _, _, .tup (ds := ds) t r, h => by
    simp only [D.py] at h
    cases e : D.pys ds with
    | none => rw [e] at h; cases h
    | some xs => rw [e] at h; cases h; exact .tup t.sq (Rps.dp r e)
  | _, _, _, .lst (ds := ds) t r, h => by
    simp only [D.py] at h
    cases e : D.pys ds with
    | none => rw [e] at h; cases h
    | some xs => rw [e] at h; cases h; exact .lst (SqL.of t) (Rps.dp r e)
  | _, _, _, .dct _ _, h => by simp only [D.py] at h; cases h
  | _, _, _, .scr _, h => by simp only [D.py] at h; cases h
  | _, _, _, .arg _ _, h => by simp only [D.py] at h; cases h
  | _, _, _, .fn _, h => by simp only [D.py] at h; cases h
  | _, _, _, .nd _ _ _ _, h => by simp only [D.py] at h; cases h
theorem Rps.dp {K : PySem.W.Frag} {F : Hp} : ∀ {vs : List V} {ds : List D} {es : List PyData}, Rps K F vs ds → D.pys ds = some es → DpAll K F vs es
  | _, _, _, .nil, h => by simp only [D.pys] at h; cases h; exact .nil
  | _, _, _, .cons (d := d) (ds := ds) a b, h => by
    simp only [D.pys] at h
    cases e1 : D.py d with
    | none => rw [e1] at h; cases h
    | some x =>
      cases e2 : D.pys ds with
      | none => rw [e1, e2] at h; cases h
      | some xs => rw [e1, e2] at h; cases h; exact .cons (Rp.dp a e1) (Rps.dp b e2)
end
theorem Vw.dp {K : PySem.W.Frag} {F H : Hp} (fh : FLe F H) {v : V} {d : D} {e : PyData} (h : Vw K F H v d) (q : d.py = some e) : Dp K H v e := by
  rcases h with h | ⟨p, o, rfl, h1, h2⟩
  · exact (h.mono fh).dp q
  · cases d with
    | lst ds =>
      obtain ⟨xs, rfl, r⟩ := h2
      exact Rp.dp (.lst h1 (r.mono fh)) q
    | _ => first | exact h2.elim | (simp only [D.py] at q; cases q)

section
variable {G : Gx}
def gI (C : Int → Int → Prop) [∀ i j, Decidable (C i j)] (f : Int → Int → D) : List D → Option D
  | [.int i, .int j] => if C i j then some (f i j) else none
  | _ => none
/-- a result that is no object -/
theorem fin_flat {F H : Hp} {K : PySem.W.Frag} {v : V} {d : D} {Q : VK} (fh : FLe F H) (q : ∀ v H' F', New F H F' H' → Rp K F' v d → Q v H') (r : Rp K F v d) : Q v H := q v H F (New.refl fh) r
/-- a rule of two ints -/
theorem psem_I {C : Int → Int → Prop} [∀ i j, Decidable (C i j)] {f : Int → Int → D} {fv : Int → Int → V} (hf : ∀ F i j, Rp G.K F (fv i j) (f i j)) : PSem G (r2L (rI C fv)) (gI C f) := fun F H vs ds d Q fh vw e q => by
  unfold gI at e
  split at e
  · rename_i i j
    split at e
    · rename_i hc
      cases e
      obtain ⟨v, w, rfl, h1, h2⟩ := vw.two
      exact ⟨v, w, rfl, i, j, h1.int, h2.int, hc, fin_flat fh q (hf F i j)⟩
    · cases e
  · cases e
theorem psem_I0 {f : Int → Int → D} {fv : Int → Int → V} (hf : ∀ F i j, Rp G.K F (fv i j) (f i j)) : PSem G (r2L (rI0 fv)) (gI (fun _ _ => True) f) := fun F H vs ds d Q fh vw e q => by
  unfold gI at e
  split at e
  · rename_i i j
    split at e
    · cases e
      obtain ⟨v, w, rfl, h1, h2⟩ := vw.two
      exact ⟨v, w, rfl, i, j, h1.int, h2.int, fin_flat fh q (hf F i j)⟩
    · cases e
  · cases e
def gStr2 (C : Str → Str → Prop) [∀ i j, Decidable (C i j)] (f : Str → Str → D) : List D → Option D
  | [.str i, .str j] => if C i j then some (f i j) else none
  | _ => none
instance (i j : Str) : Decidable (i.length + j.length ≤ sizeLine) := inferInstance
theorem psem_catS : PSem G (r2L fun x y H Q => ∃ i j, x = .str i ∧ y = .str j ∧ i.length + j.length ≤ sizeLine ∧ Q (.str (i ++ j)) H) (gStr2 (fun i j => i.length + j.length ≤ sizeLine) fun i j => .str (i ++ j)) := fun F H vs ds d Q fh vw e q => by
  unfold gStr2 at e
  split at e
  · rename_i i j
    split at e
    · rename_i hc
      cases e
      obtain ⟨v, w, rfl, h1, h2⟩ := vw.two
      exact ⟨v, w, rfl, i, j, h1.str, h2.str, hc, fin_flat fh q (.str _)⟩
    · cases e
  · cases e
theorem psem_strB {f : Str → Str → Bool} : PSem G (r2L fun x y H Q => ∃ i j, x = .str i ∧ y = .str j ∧ Q (.bl (f i j)) H) (gStr2 (fun _ _ => True) fun i j => .bl (f i j)) := fun F H vs ds d Q fh vw e q => by
  unfold gStr2 at e
  split at e
  · rename_i i j
    split at e
    · cases e
      obtain ⟨v, w, rfl, h1, h2⟩ := vw.two
      exact ⟨v, w, rfl, i, j, h1.str, h2.str, fin_flat fh q (.bl _)⟩
    · cases e
  · cases e
/-- tuples -/
def gCatT : List D → Option D
  | [.tup a, .tup b] => if a.length + b.length ≤ sizeLine then some (.tup (a ++ b)) else none
  | _ => none
theorem psem_catT : PSem G (r2L (rCatZ G.K)) gCatT := fun F H vs ds d Q fh vw e q => by
  unfold gCatT at e
  split at e
  · rename_i ds1 ds2
    split at e
    · rename_i hc
      cases e
      obtain ⟨v, w, rfl, h1, h2⟩ := vw.two
      obtain ⟨a, xs, rfl, t1, r1⟩ := h1.sqT fh
      obtain ⟨b, ys, rfl, t2, r2⟩ := h2.sqT fh
      have rp1 : Rp G.K F (.ref a) (.tup ds1) := by rcases h1 with z | ⟨_, _, _, _, z⟩; exact z; exact z.elim
      have rp2 : Rp G.K F (.ref b) (.tup ds2) := by rcases h2 with z | ⟨_, _, _, _, z⟩; exact z; exact z.elim
      refine ⟨_, _, rfl, a, b, xs, ys, rfl, rfl, t1, t2, by rw [r1.length, r2.length]; exact hc, fun z => ?_, fun z1 z2 => ?_, fun z1 z2 p o hp ho => ?_⟩
      · subst z
        cases r1
        exact fin_flat fh q (by simpa using rp2)
      · subst z2
        cases r2
        exact fin_flat fh q (by simpa using rp1)
      · exact q _ _ _ (New.obj fh hp _) (.tup (.new ho) ((r1.append r2).mono (FLe.upd _ (fh.noneOf hp))))
    · cases e
  · cases e
/-- lists -/
def gCatL : List D → Option D
  | [.lst a, .lst b] => if a.length + b.length ≤ sizeLine then some (.lst (a ++ b)) else none
  | _ => none
theorem catL_lst (ds : List D) (d : D) (e : gCatL ds = some d) : ∃ xs, d = .lst xs := by
  unfold gCatL at e
  split at e
  · split at e
    · cases e; exact ⟨_, rfl⟩
    · cases e
  · cases e
theorem fsem_catL : FSem G (r2L rCat) gCatL := fun F H vs ds d Q fh vw e q => by
  unfold gCatL at e
  split at e
  · rename_i ds1 ds2
    split at e
    · rename_i hc
      cases e
      obtain ⟨v, w, rfl, h1, h2⟩ := vw.two
      obtain ⟨a, xs, rfl, t1, r1⟩ := h1.lst fh
      obtain ⟨b, ys, rfl, t2, r2⟩ := h2.lst fh
      exact ⟨_, _, rfl, a, b, xs, ys, rfl, rfl, t1, t2, by rw [r1.length, r2.length]; exact hc, fun p hp => q p _ hp ⟨_, rfl, r1.append r2⟩⟩
    · cases e
  · cases e
/-- a + b -/
def rAddAll (K : PySem.W.Frag) : R2 := fun x y H Q => rI0 (fun i j => .int (i + j)) x y H Q ∨ ((∃ i j, x = .str i ∧ y = .str j ∧ i.length + j.length ≤ sizeLine ∧ Q (.str (i ++ j)) H) ∨ (rCatZ K x y H Q ∨ rCat x y H Q))
theorem op_addAll {X : Cx} : OpR X (binaryOp .Add) (rAddAll X.K) := op_add.or (op_add_str.or (op_catZ.or op_cat))
def gAdd : List D → Option D
  | [.int i, .int j] => some (.int (i + j))
  | [.str i, .str j] => if i.length + j.length ≤ sizeLine then some (.str (i ++ j)) else none
  | [.tup a, .tup b] => if a.length + b.length ≤ sizeLine then some (.tup (a ++ b)) else none
  | [.lst a, .lst b] => if a.length + b.length ≤ sizeLine then some (.lst (a ++ b)) else none
  | _ => none
theorem psem_add : PSem G (r2L (rAddAll G.K)) gAdd := fun F H vs ds d Q fh vw e q => by
  unfold gAdd at e
  split at e
  · rename_i i j
    obtain ⟨x, y, e1, z⟩ := psem_I0 (G := G) (f := fun i j => .int (i + j)) (fv := fun i j => .int (i + j)) (fun _ _ _ => .int _) F H vs [.int i, .int j] d Q fh vw e q
    exact ⟨x, y, e1, .inl z⟩
  · rename_i i j
    obtain ⟨x, y, e1, z⟩ := psem_catS F H vs [.str i, .str j] d Q fh vw e q
    exact ⟨x, y, e1, .inr (.inl z)⟩
  · rename_i i j
    obtain ⟨x, y, e1, z⟩ := psem_catT F H vs [.tup i, .tup j] d Q fh vw e q
    exact ⟨x, y, e1, .inr (.inr (.inl z))⟩
  · rename_i i j
    obtain ⟨x, y, e1, z⟩ := (fsem_catL.pure catL_lst) F H vs [.lst i, .lst j] d Q fh vw e q
    exact ⟨x, y, e1, .inr (.inr (.inr z))⟩
  · cases e
abbrev gSub : List D → Option D := gI (fun _ _ => True) fun i j => .int (i - j)
theorem psem_sub : PSem G (r2L (rI0 fun i j => .int (i - j))) gSub := psem_I0 fun _ _ _ => .int _
instance (i j : Int) : Decidable (CMulW i j) := by unfold CMulW; infer_instance
/-- one factor below 2^64, or both together not too long -/
def CMulA (i j : Int) : Prop := CMul i j ∨ CMulW i j
instance (i j : Int) : Decidable (CMulA i j) := by unfold CMulA CMul; infer_instance
instance (i j : Int) : Decidable (CDivW i j) := by unfold CDivW; infer_instance
instance (i j : Int) : Decidable (CPow i j) := by unfold CPow; infer_instance
/-- a * b: ints; a tuple so often -/
def rMulAll (K : PySem.W.Frag) : R2 := fun x y H Q => rI CMulA (fun i j => .int (i * j)) x y H Q ∨ rRepZ K x y H Q ∨ rRep1 K x y H Q
def gMul : List D → Option D
  | [.int i, .int j] => if CMulA i j then some (.int (i * j)) else none
  | [.tup a, .int k] => if a.isEmpty = false ∧ 1 ≤ k ∧ k ≤ 1000 ∧ a.length ≤ 1000 then some (.tup (List.replicate k.toNat a).flatten) else none
  | _ => none
theorem psem_mul : PSem G (r2L (rMulAll G.K)) gMul := fun F H vs ds d Q fh vw e q => by
  unfold gMul at e
  split at e
  · rename_i i j
    split at e
    · rename_i hc
      cases e
      obtain ⟨v, w, rfl, h1, h2⟩ := vw.two
      exact ⟨v, w, rfl, .inl ⟨i, j, h1.int, h2.int, hc, fin_flat fh q (.int _)⟩⟩
    · cases e
  · rename_i ds1 k
    split at e
    · rename_i hc
      cases e
      obtain ⟨v, w, rfl, h1, h2⟩ := vw.two
      obtain ⟨a, xs, rfl, t1, r1⟩ := h1.sqT fh
      have e2 := h2.int
      subst e2
      obtain ⟨c1, c2, c3, c4⟩ := hc
      by_cases k1 : k = 1
      · subst k1
        refine ⟨_, _, rfl, .inr (.inr ⟨a, xs, rfl, rfl, t1, ?_⟩)⟩
        rcases h1 with h1 | ⟨_, _, _, _, h1⟩
        · refine fin_flat fh q ?_
          have : (List.replicate (1 : Int).toNat ds1).flatten = ds1 := by simp
          rw [this]
          exact h1
        · exact h1.elim
      refine ⟨_, _, rfl, .inr (.inl ⟨a, k, xs, rfl, rfl, t1, fun z => ?_, by omega, c3, by rw [r1.length]; exact c4, fun p o hp ho => q _ _ _ (New.obj fh hp _) (.tup (.new ho) ((r1.rep _).mono (FLe.upd _ (fh.noneOf hp))))⟩)⟩
      subst z
      cases r1
      cases c1
    · cases e
  · cases e
theorem op_mulA {X : Cx} : OpR X (binaryOp .Mult) (rI CMulA fun i j => .int (i * j)) := by
  intro pins s σ H x y v u Q I rx ry ⟨i, j, h1, h2, hc, q⟩
  rcases hc with hc | hc
  · exact op_mul pins s σ H x y v u Q I rx ry ⟨i, j, h1, h2, hc, q⟩
  · exact op_mulW pins s σ H x y v u Q I rx ry ⟨i, j, h1, h2, hc, q⟩
theorem op_mulAll {X : Cx} : OpR X (binaryOp .Mult) (rMulAll X.K) := op_mulA.or (op_repZ.or op_rep1)
abbrev gDiv : List D → Option D := gI CDivW fun i j => .int (i / j)
theorem psem_div : PSem G (r2L (rI CDivW fun i j => .int (i / j))) gDiv := psem_I fun _ _ _ => .int _
abbrev gMod : List D → Option D := gI (fun _ j => 0 < j) fun i j => .int (i % j)
theorem psem_mod : PSem G (r2L (rI (fun _ j => 0 < j) fun i j => .int (i % j))) gMod := psem_I fun _ _ _ => .int _
abbrev gPow : List D → Option D := gI CPow fun i j => .int (i ^ j.toNat)
theorem psem_pow : PSem G (r2L (rI CPow fun i j => .int (i ^ j.toNat))) gPow := psem_I fun _ _ _ => .int _
def gNeg : List D → Option D
  | [.int i] => some (.int (-i))
  | _ => none
theorem psem_neg : PSem G (fun vs H Q => ∃ x, vs = [x] ∧ rU (fun i => .int (-i)) x H Q) gNeg := fun F H vs ds d Q fh vw e q => by
  unfold gNeg at e
  split at e
  · rename_i i
    cases e
    obtain ⟨v, rfl, h1⟩ := vw.one
    exact ⟨v, rfl, i, h1.int, fin_flat fh q (.int _)⟩
  · cases e

/-! ### comparisons -/
def lexI (f : Int → Int → Bool) (g : Str → Str → Bool) : List D → Option D
  | [.int i, .int j] => some (.bl (f i j))
  | [.str i, .str j] => some (.bl (g i j))
  | _ => none
def rOrd (f : Int → Int → Bool) (g : Str → Str → Bool) : R2 := fun x y H Q => rI0 (fun i j => .bl (f i j)) x y H Q ∨ ∃ i j, x = .str i ∧ y = .str j ∧ Q (.bl (g i j)) H
theorem psem_ord {f : Int → Int → Bool} {g : Str → Str → Bool} : PSem G (r2L (rOrd f g)) (lexI f g) := fun F H vs ds d Q fh vw e q => by
  unfold lexI at e
  split at e
  · rename_i i j
    cases e
    obtain ⟨v, w, rfl, h1, h2⟩ := vw.two
    exact ⟨v, w, rfl, .inl ⟨i, j, h1.int, h2.int, fin_flat fh q (.bl _)⟩⟩
  · rename_i i j
    cases e
    obtain ⟨v, w, rfl, h1, h2⟩ := vw.two
    exact ⟨v, w, rfl, .inr ⟨i, j, h1.str, h2.str, fin_flat fh q (.bl _)⟩⟩
  · cases e
abbrev sLt (i j : Str) : Bool := decide (i.cps.toList < j.cps.toList)
abbrev sLe (i j : Str) : Bool := !decide (j.cps.toList < i.cps.toList)
abbrev gLt : List D → Option D := lexI (fun i j => decide (i < j)) sLt
abbrev gLe : List D → Option D := lexI (fun i j => decide (i ≤ j)) sLe
abbrev gGt : List D → Option D := lexI (fun i j => decide (j < i)) fun i j => sLt j i
abbrev gGe : List D → Option D := lexI (fun i j => decide (j ≤ i)) fun i j => sLe j i
theorem op_ltA {X : Cx} : OpR X (compareOp .Lt) (rOrd (fun i j => decide (i < j)) sLt) := op_lt.or op_lt_str
theorem op_leA {X : Cx} : OpR X (compareOp .LtE) (rOrd (fun i j => decide (i ≤ j)) sLe) := op_le.or op_le_str
theorem op_gtA {X : Cx} : OpR X (compareOp .Gt) (rOrd (fun i j => decide (j < i)) fun i j => sLt j i) := op_gt.or op_gt_str
theorem op_geA {X : Cx} : OpR X (compareOp .GtE) (rOrd (fun i j => decide (j ≤ i)) fun i j => sLe j i) := op_ge.or op_ge_str
/-- == at any depth -/
def eqD (a b : D) : Option Bool := (a.py).bind fun x => (b.py).bind fun y => if (SeqAt.shaped x && SeqAt.shaped y) = true then some (PyData.eqv x y) else none
def gEq : List D → Option D
  | [a, b] => (eqD a b).map .bl
  | _ => none
def gNe : List D → Option D
  | [a, b] => (eqD a b).map fun k => .bl (!k)
  | _ => none
theorem eqD_some {a b : D} {k : Bool} (h : eqD a b = some k) : ∃ x y, a.py = some x ∧ b.py = some y ∧ SeqAt.shaped x = true ∧ SeqAt.shaped y = true ∧ k = PyData.eqv x y := by
  unfold eqD at h
  cases e1 : a.py with
  | none => rw [e1] at h; cases h
  | some x =>
    cases e2 : b.py with
    | none => rw [e1, e2] at h; cases h
    | some y =>
      rw [e1, e2] at h
      simp only [Option.bind_some] at h
      split at h
      · rename_i hs
        rw [Bool.and_eq_true] at hs
        cases h
        exact ⟨x, y, rfl, rfl, hs.1, hs.2, rfl⟩
      · cases h
theorem psem_eq : PSem G (r2L (rEqD G.K)) gEq := fun F H vs ds d Q fh vw e q => by
  unfold gEq at e
  split at e
  · rename_i a b
    cases e1 : eqD a b with
    | none => rw [e1] at e; cases e
    | some k =>
      rw [e1] at e
      cases e
      obtain ⟨v, w, rfl, h1, h2⟩ := vw.two
      obtain ⟨x, y, p1, p2, s1, s2, rfl⟩ := eqD_some e1
      exact ⟨v, w, rfl, x, y, h1.dp fh p1, h2.dp fh p2, s1, s2, fin_flat fh q (.bl _)⟩
  · cases e
theorem psem_ne : PSem G (r2L (rNeD G.K)) gNe := fun F H vs ds d Q fh vw e q => by
  unfold gNe at e
  split at e
  · rename_i a b
    cases e1 : eqD a b with
    | none => rw [e1] at e; cases e
    | some k =>
      rw [e1] at e
      cases e
      obtain ⟨v, w, rfl, h1, h2⟩ := vw.two
      obtain ⟨x, y, p1, p2, s1, s2, rfl⟩ := eqD_some e1
      exact ⟨v, w, rfl, x, y, h1.dp fh p1, h2.dp fh p2, s1, s2, fin_flat fh q (.bl _)⟩
  · cases e
/-- is None, is True, is False -/
def isD : D → D → Option Bool
  | .non, .non => some true
  | .bl a, .bl b => some (decide (a = b))
  | _, .non => some false
  | _, _ => none
def gIs : List D → Option D
  | [a, b] => (isD a b).map .bl
  | _ => none
def gIsNot : List D → Option D
  | [a, b] => (isD a b).map fun k => .bl (!k)
  | _ => none
def rIsA (k : Bool) : R2 := fun x y H Q => (y = .non ∧ Q (.bl (xor k (decide (x = .non)))) H) ∨ ∃ a b, x = .bl a ∧ y = .bl b ∧ Q (.bl (xor k (decide (a = b)))) H
theorem op_isA {X : Cx} : OpR X (compareOp .Is) (rIsA false) := by
  intro pins s σ H x y v u Q I rx ry h
  rcases h with ⟨h1, h2⟩ | ⟨a, b, h1, h2, h3⟩
  · exact op_isN pins s σ H x y v u Q I rx ry ⟨h1, by simpa using h2⟩
  · exact op_is_bl pins s σ H x y v u Q I rx ry ⟨a, b, h1, h2, by simpa using h3⟩
theorem op_isNotA {X : Cx} : OpR X (compareOp .IsNot) (rIsA true) := by
  intro pins s σ H x y v u Q I rx ry h
  rcases h with ⟨h1, h2⟩ | ⟨a, b, h1, h2, h3⟩
  · exact op_notN pins s σ H x y v u Q I rx ry ⟨h1, by simpa using h2⟩
  · exact op_isnot_bl pins s σ H x y v u Q I rx ry ⟨a, b, h1, h2, by simpa using h3⟩
theorem Vw.not_non {K : PySem.W.Frag} {F H : Hp} {v : V} {d : D} (h : Vw K F H v d) (n : d ≠ .non) : v ≠ .non := fun e => by
  subst e
  rcases h with h | ⟨p, o, e, _⟩
  · cases h; exact n rfl
  · cases e
theorem isD_vw {K : PySem.W.Frag} {F H : Hp} {v w : V} {a b : D} {k : Bool} (e : isD a b = some k) (h1 : Vw K F H v a) (h2 : Vw K F H w b) : (w = .non ∧ k = decide (v = .non)) ∨ ∃ x y, v = .bl x ∧ w = .bl y ∧ k = decide (x = y) := by
  cases b with
  | non =>
    have ew := h2.non
    subst ew
    left
    refine ⟨rfl, ?_⟩
    cases a with
    | non => have ev := h1.non; subst ev; simp only [isD] at e; cases e; rfl
    | _ =>
      have ne := h1.not_non (by intro z; cases z)
      simp only [isD] at e
      cases e
      exact (decide_eq_false ne).symm
  | bl y =>
    cases a with
    | bl x => simp only [isD] at e; cases e; exact .inr ⟨x, y, h1.bl, h2.bl, rfl⟩
    | _ => simp only [isD] at e; cases e
  | _ => cases a <;> (simp only [isD] at e; cases e)
theorem psem_is : PSem G (r2L (rIsA false)) gIs := fun F H vs ds d Q fh vw e q => by
  unfold gIs at e
  split at e
  · rename_i a b
    cases e1 : isD a b with
    | none => rw [e1] at e; cases e
    | some k =>
      rw [e1] at e
      cases e
      obtain ⟨v, w, rfl, h1, h2⟩ := vw.two
      refine ⟨v, w, rfl, ?_⟩
      rcases isD_vw e1 h1 h2 with ⟨z1, z2⟩ | ⟨x, y, z1, z2, z3⟩
      · subst z2; exact .inl ⟨z1, fin_flat fh q (by simpa using Rp.bl _)⟩
      · subst z3; exact .inr ⟨x, y, z1, z2, fin_flat fh q (by simpa using Rp.bl _)⟩
  · cases e
theorem psem_isNot : PSem G (r2L (rIsA true)) gIsNot := fun F H vs ds d Q fh vw e q => by
  unfold gIsNot at e
  split at e
  · rename_i a b
    cases e1 : isD a b with
    | none => rw [e1] at e; cases e
    | some k =>
      rw [e1] at e
      cases e
      obtain ⟨v, w, rfl, h1, h2⟩ := vw.two
      refine ⟨v, w, rfl, ?_⟩
      rcases isD_vw e1 h1 h2 with ⟨z1, z2⟩ | ⟨x, y, z1, z2, z3⟩
      · subst z2; exact .inl ⟨z1, fin_flat fh q (by simpa using Rp.bl _)⟩
      · subst z3; exact .inr ⟨x, y, z1, z2, fin_flat fh q (by simpa using Rp.bl _)⟩
  · cases e
end
end Dt

set_option Elab.async false
set_option linter.all false
set_option maxRecDepth 100000
set_option maxHeartbeats 2000000
/-! Subscripts, `in`, built-in functions, by values. -/
namespace Dt
open PySem PySem.Spec PyProof.Rows L2

def keyOf : D → Option Key
  | .int i => some (.inl i)
  | .str s => some (.inr s)
  | _ => none
def dLook : List Key → List D → Key → Option D
  | k :: ks, d :: ds, x => if k = x then some d else dLook ks ds x
  | _, _, _ => none
def flatD : D → Bool
  | .non => true
  | .bl _ => true
  | .int _ => true
  | .str _ => true
  | _ => false
def eqF : D → D → Bool
  | .non, .non => true
  | .bl a, .bl b => a == b
  | .bl a, .int b => (if a then 1 else 0) == b
  | .int a, .bl b => a == (if b then 1 else 0)
  | .int a, .int b => a == b
  | .str a, .str b => a == b
  | _, _ => false
section
variable {G : Gx} {K : PySem.W.Frag} {F H : Hp}
theorem keyOf_vw {v : V} {d : D} {k : Key} (h : Vw K F H v d) (e : keyOf d = some k) : v = kV k := by
  cases d with
  | int i => cases e; exact h.int
  | str i => cases e; exact h.str
  | _ => cases e
theorem dLook_val : ∀ {kvs : List (Key × V)} {ks : List Key} {ds : List D} (k : Key), kvs.map (·.1) = ks → Rps K F (kvs.map (·.2)) ds → (valV kvs k = none ∧ dLook ks ds k = none) ∨ ∃ v d, valV kvs k = some v ∧ dLook ks ds k = some d ∧ Rp K F v d
  | [], _, _, k, e, r => by
    subst e
    cases r
    exact .inl ⟨rfl, rfl⟩
  | (k0, v0) :: kvs, _, _, k, e, r => by
    subst e
    cases r with
    | cons a b =>
      by_cases hk : k0 = k
      · exact .inr ⟨v0, _, valV_pos (p := (k0, v0)) hk, by simp only [List.map_cons, dLook]; rw [if_pos hk], a⟩
      · have e1 : valV ((k0, v0) :: kvs) k = valV kvs k := valV_neg (p := (k0, v0)) hk
        simp only [List.map_cons, dLook]
        rw [e1, if_neg hk]
        exact dLook_val k rfl b
theorem flat_vw {v : V} {d : D} (h : Rp K F v d) (f : flatD d = true) : flatV v = true := by
  cases h <;> first | rfl | cases f
theorem eqF_vw {v w : V} {d e : D} (h1 : Rp K F v d) (h2 : Rp K F w e) (f1 : flatD d = true) (f2 : flatD e = true) : eqV v w = eqF d e := by
  cases h1 <;> first
    | (cases f1; done)
    | (cases h2 <;> first | (cases f2; done) | rfl)
theorem flats : ∀ {vs : List V} {ds : List D}, Rps K F vs ds → ds.all flatD = true → vs.all flatV = true
  | _, _, .nil, _ => rfl
  | _, _, .cons a b, h => by
    rw [List.all_cons, Bool.and_eq_true] at h
    rw [List.all_cons, flat_vw a h.1, flats b h.2]
    rfl
theorem inF : ∀ {vs : List V} {ds : List D} {x : V} {d : D}, Rps K F vs ds → Rp K F x d → ds.all flatD = true → flatD d = true → inV x vs = ds.any fun y => eqF y d
  | _, _, _, _, .nil, _, _, _ => rfl
  | _, _, _, _, .cons a b, r, h, f => by
    rw [List.all_cons, Bool.and_eq_true] at h
    have ih := inF b r h.2 f
    unfold inV at ih ⊢
    rw [List.any_cons, List.any_cons, eqF_vw a r h.1 f, ih]
theorem Vw.flat {v : V} {d : D} (h : Vw K F H v d) (f : flatD d = true) : Rp K F v d := by
  rcases h with h | ⟨_, _, _, _, h⟩
  · exact h
  · cases d <;> first | exact h.elim | cases f

/-- x in y -/
def inD (x y : D) : Option Bool := match y with
  | .lst ys => if (flatD x && ys.all flatD) = true then some (ys.any fun y => eqF y x) else none
  | .tup ys => if (flatD x && ys.all flatD) = true then some (ys.any fun y => eqF y x) else none
  | .arg ys => if (flatD x && ys.all flatD) = true then some (ys.any fun y => eqF y x) else none
  | .str j => match x with
    | .str i => some (!(Builtin.Str.occurrences j i 0 j.length 1).isEmpty)
    | _ => none
  | .dct ks ds => (keyOf x).map fun k => (dLook ks ds k).isSome
  | _ => none
def gIn : List D → Option D
  | [x, y] => (inD x y).map .bl
  | _ => none
def gNotIn : List D → Option D
  | [x, y] => (inD x y).map fun k => .bl (!k)
  | _ => none
def rInA (K : PySem.W.Frag) (neg : Bool) : R2 := fun x y H Q => rIn K neg x y H Q ∨ (∃ i j, x = .str i ∧ y = .str j ∧ Q (.bl (xor neg (!(Builtin.Str.occurrences j i 0 j.length 1).isEmpty))) H) ∨
  ∃ a o, y = .ref a ∧ DGet H a x o ∧ Q (.bl (xor neg o.isSome)) H
theorem op_inA {X : Cx} (hu : X.A.units + 64 < cLine) : OpR X (compareOp .In) (rInA X.K false) := by
  intro pins s σ H x y v u Q I rx ry h
  rcases h with h | ⟨i, j, h1, h2, h3⟩ | ⟨a, o, h1, h2, h3⟩
  · exact op_in_seq pins s σ H x y v u Q I rx ry h
  · exact op_in_str pins s σ H x y v u Q I rx ry ⟨i, j, h1, h2, by simpa using h3⟩
  · subst h1
    obtain rfl : u = Value.ref a := ry
    exact d_in (by omega) I h2 rx fun s' I' => ⟨.bl o.isSome, H, I', rfl, by simpa using h3⟩
theorem op_notInA {X : Cx} (hu : X.A.units + 64 < cLine) : OpR X (compareOp .NotIn) (rInA X.K true) := by
  intro pins s σ H x y v u Q I rx ry h
  rcases h with h | ⟨i, j, h1, h2, h3⟩ | ⟨a, o, h1, h2, h3⟩
  · exact op_notIn_seq pins s σ H x y v u Q I rx ry h
  · exact op_notIn_str pins s σ H x y v u Q I rx ry ⟨i, j, h1, h2, by simpa using h3⟩
  · subst h1
    obtain rfl : u = Value.ref a := ry
    exact d_notIn (by omega) I h2 rx fun s' I' => ⟨.bl (!o.isSome), H, I', rfl, by simpa using h3⟩
theorem inD_vw {Q : VK} {neg : Bool} {x y : V} {d e : D} {k : Bool} (fh : FLe F H) (h1 : Vw K F H x d) (h2 : Vw K F H y e) (q : inD d e = some k) (z : Q (.bl (xor neg k)) H) : rInA K neg x y H Q := by
  cases e with
  | lst ys =>
    simp only [inD] at q
    split at q
    · rename_i hf
      cases q
      rw [Bool.and_eq_true] at hf
      obtain ⟨a, xs, rfl, t, r⟩ := h2.lst fh
      have rx := h1.flat hf.1
      refine .inl ⟨a, xs, rfl, .inl (SqL.of t), flat_vw rx hf.1, flats r hf.2, ?_⟩
      rw [inF r rx hf.2 hf.1]
      cases neg <;> simpa using z
    · cases q
  | tup ys =>
    simp only [inD] at q
    split at q
    · rename_i hf
      cases q
      rw [Bool.and_eq_true] at hf
      obtain ⟨a, xs, rfl, t, r⟩ := h2.sqT fh
      have rx := h1.flat hf.1
      refine .inl ⟨a, xs, rfl, .inr t, flat_vw rx hf.1, flats r hf.2, ?_⟩
      rw [inF r rx hf.2 hf.1]
      cases neg <;> simpa using z
    · cases q
  | arg ys =>
    simp only [inD] at q
    split at q
    · rename_i hf
      cases q
      rw [Bool.and_eq_true] at hf
      obtain ⟨a, xs, rfl, t, r⟩ := h2.argT fh
      have rx := h1.flat hf.1
      refine .inl ⟨a, xs, rfl, .inr t, flat_vw rx hf.1, flats r hf.2, ?_⟩
      rw [inF r rx hf.2 hf.1]
      cases neg <;> simpa using z
    · cases q
  | str j =>
    cases d with
    | str i => simp only [inD] at q; cases q; exact .inr (.inl ⟨i, j, h1.str, h2.str, z⟩)
    | _ => simp only [inD] at q; cases q
  | dct ks ds =>
    simp only [inD] at q
    cases ek : keyOf d with
    | none => rw [ek] at q; cases q
    | some k' =>
      rw [ek] at q
      cases q
      obtain ⟨a, kvs, rfl, t, e1, r⟩ := h2.dct fh
      have ex := keyOf_vw h1 ek
      subst ex
      refine .inr (.inr ⟨a, valV kvs k', rfl, .inl ⟨kvs, k', t, rfl, rfl⟩, ?_⟩)
      have z : Q (.bl (xor neg (dLook ks ds k').isSome)) H := z
      rcases dLook_val k' e1 r with ⟨z1, z2⟩ | ⟨v, d', z1, z2, _⟩
      · rw [z1]; rw [z2] at z; exact z
      · rw [z1]; rw [z2] at z; exact z
  | _ => simp only [inD] at q; cases q
theorem psem_in : PSem G (r2L (rInA G.K false)) gIn := fun F H vs ds d Q fh vw e q => by
  unfold gIn at e
  split at e
  · rename_i a b
    cases e1 : inD a b with
    | none => rw [e1] at e; cases e
    | some k =>
      rw [e1] at e
      cases e
      obtain ⟨v, w, rfl, h1, h2⟩ := vw.two
      exact ⟨v, w, rfl, inD_vw fh h1 h2 e1 (fin_flat fh q (by simpa using Rp.bl _))⟩
  · cases e
theorem psem_notIn : PSem G (r2L (rInA G.K true)) gNotIn := fun F H vs ds d Q fh vw e q => by
  unfold gNotIn at e
  split at e
  · rename_i a b
    cases e1 : inD a b with
    | none => rw [e1] at e; cases e
    | some k =>
      rw [e1] at e
      cases e
      obtain ⟨v, w, rfl, h1, h2⟩ := vw.two
      exact ⟨v, w, rfl, inD_vw fh h1 h2 e1 (fin_flat fh q (by simpa using Rp.bl _))⟩
  · cases e

/-! ### subscripts -/
def idxD (x y : D) : Option D := match x with
  | .lst xs => match y with
    | .int i => atI xs i
    | _ => none
  | .tup xs => match y with
    | .int i => atI xs i
    | _ => none
  | .str z => match y with
    | .int i => if z.length ≤ sizeLine then (atI z.cps.toList i).map fun c => .str ⟨#[c]⟩ else none
    | _ => none
  | .dct ks ds => (keyOf y).bind fun k => dLook ks ds k
  | _ => none
def gIdx : List D → Option D
  | [x, y] => idxD x y
  | _ => none
theorem atI_rps {vs : List V} {ds : List D} {i : Int} {d : D} (r : Rps K F vs ds) (h : atI ds i = some d) : ∃ v, atI vs i = some v ∧ Rp K F v d := by
  unfold atI at h ⊢
  rw [r.length]
  cases e : ixN ds.length i with
  | none => rw [e] at h; cases h
  | some j =>
    rw [e] at h
    exact r.get h
def rIxA (K : PySem.W.Frag) : R2 := fun x y H Q => rIx K x y H Q ∨ ∃ a v, x = .ref a ∧ DGet H a y (some v) ∧ Q v H
theorem psem_idx : PSem G (r2L (rIxA G.K)) gIdx := fun F H vs ds d Q fh vw e q => by
  unfold gIdx at e
  split at e
  · rename_i x y
    obtain ⟨v, w, rfl, h1, h2⟩ := vw.two
    refine ⟨v, w, rfl, ?_⟩
    cases x with
    | lst xs =>
      cases y with
      | int i =>
        obtain ⟨a, zs, rfl, t, r⟩ := h1.lst fh
        obtain ⟨u, e1, rp⟩ := atI_rps r e
        exact .inl (.inl ⟨a, zs, i, u, rfl, h2.int, SqL.of t, e1, fin_flat fh q rp⟩)
      | _ => simp only [idxD] at e; cases e
    | tup xs =>
      cases y with
      | int i =>
        obtain ⟨a, zs, rfl, t, r⟩ := h1.sqT fh
        obtain ⟨u, e1, rp⟩ := atI_rps r e
        exact .inl (.inr (.inl ⟨a, zs, i, u, rfl, h2.int, t, e1, fin_flat fh q rp⟩))
      | _ => simp only [idxD] at e; cases e
    | str z =>
      cases y with
      | int i =>
        simp only [idxD] at e
        split at e
        · rename_i hz
          cases e1 : atI z.cps.toList i with
          | none => rw [e1] at e; cases e
          | some c => rw [e1] at e; cases e; exact .inl (.inr (.inr ⟨z, i, c, h1.str, h2.int, hz, e1, fin_flat fh q (.str _)⟩))
        · cases e
      | _ => simp only [idxD] at e; cases e
    | dct ks ds' =>
      simp only [idxD] at e
      cases ek : keyOf y with
      | none => rw [ek] at e; cases e
      | some k =>
        rw [ek] at e
        have e : dLook ks ds' k = some d := e
        obtain ⟨a, kvs, rfl, t, e1, r⟩ := h1.dct fh
        have ew := keyOf_vw h2 ek
        subst ew
        rcases dLook_val k e1 r with ⟨_, z2⟩ | ⟨u, d', z1, z2, rp⟩
        · rw [z2] at e; cases e
        · rw [z2] at e; cases e; exact .inr ⟨a, u, rfl, .inl ⟨kvs, k, t, rfl, z1.symm⟩, fin_flat fh q rp⟩
    | _ => simp only [idxD] at e; cases e
  · cases e

/-! ### built-in functions -/
def r1L (r : V → Hp → VK → Prop) : RL := fun vs H Q => ∃ x, vs = [x] ∧ r x H Q
def gLen : List D → Option D
  | [.str s] => if s.length ≤ sizeLine then some (.int s.length) else none
  | [.tup xs] => some (.int xs.length)
  | [.lst xs] => some (.int xs.length)
  | [.dct ks _] => some (.int ks.length)
  | _ => none
def rLenA (K : PySem.W.Frag) : RL := fun xs H Q => (∃ x n, xs = [x] ∧ LenV K x H n ∧ Q (.int n) H) ∨ ∃ a kvs, xs = [V.ref a] ∧ Rd H a (.dK kvs) ∧ Q (.int kvs.length) H
theorem call_lenA {X : Cx} : CallR X (.builtin "len") (rLenA X.K) := by
  intro pins s σ H xs us Q I r h
  rcases h with h | ⟨a, kvs, rfl, ha, q⟩
  · exact call_len pins s σ H xs us Q I r h
  · obtain ⟨u, rfl, ru⟩ := vals1 r
    cases ru
    exact d_len I ha fun t s' I' => ⟨.int kvs.length, H, I', ⟨t, rfl⟩, q⟩
theorem psem_len : PSem G (rLenA G.K) gLen := fun F H vs ds d Q fh vw e q => by
  unfold gLen at e
  split at e
  · split at e
    · rename_i z hz
      cases e
      obtain ⟨v, rfl, h⟩ := vw.one
      have ev := h.str
      subst ev
      exact .inl ⟨_, _, rfl, ⟨hz, rfl⟩, fin_flat fh q (.int _)⟩
    · cases e
  · cases e
    obtain ⟨v, rfl, h⟩ := vw.one
    obtain ⟨a, xs, rfl, t, r⟩ := h.sqT fh
    exact .inl ⟨_, _, rfl, .inr ⟨xs, t, r.length.symm⟩, fin_flat fh q (.int _)⟩
  · cases e
    obtain ⟨v, rfl, h⟩ := vw.one
    obtain ⟨a, xs, rfl, t, r⟩ := h.lst fh
    exact .inl ⟨_, _, rfl, .inl ⟨xs, SqL.of t, r.length.symm⟩, fin_flat fh q (.int _)⟩
  · cases e
    obtain ⟨v, rfl, h⟩ := vw.one
    obtain ⟨a, kvs, rfl, t, e1, r⟩ := h.dct fh
    refine .inr ⟨a, kvs, rfl, t, fin_flat fh q ?_⟩
    rw [← e1, List.length_map]
    exact .int _
  · cases e
def gInt : List D → Option D
  | [.int i] => some (.int i)
  | [.bl b] => some (.int (if b then 1 else 0))
  | _ => none
theorem psem_int : PSem G (fun xs H Q => (∃ i, xs = [V.int i] ∧ Q (.int i) H) ∨ ∃ k, xs = [V.bl k] ∧ Q (.int (if k then 1 else 0)) H) gInt := fun F H vs ds d Q fh vw e q => by
  unfold gInt at e
  split at e
  · cases e
    obtain ⟨v, rfl, h⟩ := vw.one
    exact .inl ⟨_, by rw [h.int], fin_flat fh q (.int _)⟩
  · cases e
    obtain ⟨v, rfl, h⟩ := vw.one
    exact .inr ⟨_, by rw [h.bl], fin_flat fh q (.int _)⟩
  · cases e
def gBool : List D → Option D
  | [.int i] => some (.bl (i != 0))
  | [.bl b] => some (.bl b)
  | _ => none
theorem psem_bool : PSem G (fun xs H Q => (∃ i, xs = [V.int i] ∧ Q (.bl (i != 0)) H) ∨ ∃ k, xs = [V.bl k] ∧ Q (.bl k) H) gBool := fun F H vs ds d Q fh vw e q => by
  unfold gBool at e
  split at e
  · cases e
    obtain ⟨v, rfl, h⟩ := vw.one
    exact .inl ⟨_, by rw [h.int], fin_flat fh q (.bl _)⟩
  · cases e
    obtain ⟨v, rfl, h⟩ := vw.one
    exact .inr ⟨_, by rw [h.bl], fin_flat fh q (.bl _)⟩
  · cases e
def gAbs : List D → Option D
  | [.int i] => some (.int (if i < 0 then -i else i))
  | _ => none
theorem psem_abs : PSem G (fun xs H Q => ∃ i, xs = [V.int i] ∧ Q (.int (if i < 0 then -i else i)) H) gAbs := fun F H vs ds d Q fh vw e q => by
  unfold gAbs at e
  split at e
  · cases e
    obtain ⟨v, rfl, h⟩ := vw.one
    exact ⟨_, by rw [h.int], fin_flat fh q (.int _)⟩
  · cases e
def gMax2 : List D → Option D
  | [.int i, .int j] => some (.int (if j > i then j else i))
  | _ => none
theorem psem_max2 : PSem G (fun xs H Q => ∃ i j, xs = [V.int i, V.int j] ∧ Q (.int (if j > i then j else i)) H) gMax2 := fun F H vs ds d Q fh vw e q => by
  unfold gMax2 at e
  split at e
  · cases e
    obtain ⟨v, w, rfl, h1, h2⟩ := vw.two
    exact ⟨_, _, by rw [h1.int, h2.int], fin_flat fh q (.int _)⟩
  · cases e
def gMin2 : List D → Option D
  | [.int i, .int j] => some (.int (if j < i then j else i))
  | _ => none
theorem psem_min2 : PSem G (fun xs H Q => ∃ i j, xs = [V.int i, V.int j] ∧ Q (.int (if j < i then j else i)) H) gMin2 := fun F H vs ds d Q fh vw e q => by
  unfold gMin2 at e
  split at e
  · cases e
    obtain ⟨v, w, rfl, h1, h2⟩ := vw.two
    exact ⟨_, _, by rw [h1.int, h2.int], fin_flat fh q (.int _)⟩
  · cases e
def intsOf : List D → Option (List Int)
  | [] => some []
  | .int i :: ds => (intsOf ds).map fun r => i :: r
  | _ => none
theorem ints_vw : ∀ {vs : List V} {ds : List D} {ns : List Int}, Rps K F vs ds → intsOf ds = some ns → vs = ns.map V.int
  | _, _, _, .nil, e => by simp only [intsOf] at e; cases e; rfl
  | _, _, _, .cons (d := d) (ds := ds) a b, e => by
    cases a with
    | int i =>
      simp only [intsOf] at e
      cases e1 : intsOf ds with
      | none => rw [e1] at e; cases e
      | some r => rw [e1] at e; cases e; rw [List.map_cons, ints_vw b e1]
    | _ => simp only [intsOf] at e; cases e
def blsOf : List D → Option (List Bool)
  | [] => some []
  | .bl i :: ds => (blsOf ds).map fun r => i :: r
  | _ => none
theorem bls_vw : ∀ {vs : List V} {ds : List D} {ns : List Bool}, Rps K F vs ds → blsOf ds = some ns → vs = ns.map V.bl
  | _, _, _, .nil, e => by simp only [blsOf] at e; cases e; rfl
  | _, _, _, .cons (d := d) (ds := ds) a b, e => by
    cases a with
    | bl i =>
      simp only [blsOf] at e
      cases e1 : blsOf ds with
      | none => rw [e1] at e; cases e
      | some r => rw [e1] at e; cases e; rw [List.map_cons, bls_vw b e1]
    | _ => simp only [blsOf] at e; cases e
def gSum : List D → Option D
  | [.lst xs] => (intsOf xs).map fun ns => .int ns.sum
  | _ => none
theorem psem_sum : PSem G (rSum G.K) gSum := fun F H vs ds d Q fh vw e q => by
  unfold gSum at e
  split at e
  · rename_i xs
    cases e1 : intsOf xs with
    | none => rw [e1] at e; cases e
    | some ns =>
      rw [e1] at e
      cases e
      obtain ⟨v, rfl, h⟩ := vw.one
      obtain ⟨a, zs, rfl, t, r⟩ := h.lst fh
      have ez := ints_vw r e1
      subst ez
      exact ⟨a, ns, rfl, SqL.of t, fin_flat fh q (.int _)⟩
  · cases e
def gAll : List D → Option D
  | [.lst xs] => (blsOf xs).map fun ns => .bl (ns.all id)
  | _ => none
theorem psem_all : PSem G (rAll G.K) gAll := fun F H vs ds d Q fh vw e q => by
  unfold gAll at e
  split at e
  · rename_i xs
    cases e1 : blsOf xs with
    | none => rw [e1] at e; cases e
    | some ns =>
      rw [e1] at e
      cases e
      obtain ⟨v, rfl, h⟩ := vw.one
      obtain ⟨a, zs, rfl, t, r⟩ := h.lst fh
      have ez := bls_vw r e1
      subst ez
      exact ⟨a, ns, rfl, SqL.of t, fin_flat fh q (.bl _)⟩
  · cases e
def gAny : List D → Option D
  | [.lst xs] => (blsOf xs).map fun ns => .bl (ns.any id)
  | _ => none
theorem psem_any : PSem G (rAny G.K) gAny := fun F H vs ds d Q fh vw e q => by
  unfold gAny at e
  split at e
  · rename_i xs
    cases e1 : blsOf xs with
    | none => rw [e1] at e; cases e
    | some ns =>
      rw [e1] at e
      cases e
      obtain ⟨v, rfl, h⟩ := vw.one
      obtain ⟨a, zs, rfl, t, r⟩ := h.lst fh
      have ez := bls_vw r e1
      subst ez
      exact ⟨a, ns, rfl, SqL.of t, fin_flat fh q (.bl _)⟩
  · cases e
/-- a key as data -/
def keyD : Key → D
  | .inl i => .int i
  | .inr z => .str z
theorem rp_key (k : Key) : Rp K F (kV k) (keyD k) := by
  cases k with
  | inl i => exact .int i
  | inr z => exact .str z
theorem rps_keys : ∀ {kvs : List (Key × V)}, Rps K F (kvs.map fun kv => kV kv.1) ((kvs.map (·.1)).map keyD)
  | [] => .nil
  | kv :: kvs => .cons (rp_key kv.1) rps_keys
def rListA (K : PySem.W.Frag) : List V → Hp → VK → Prop := fun xs H Q => (∃ p ys, xs = [V.ref p] ∧ (SqL K H p ys ∨ SqT K H p ys) ∧ ∀ l, H l = none → Q (.ref l) (upd H l (.lst ys))) ∨
  ∃ (a : Addr) (kvs : List (Key × V)), xs = [V.ref a] ∧ Rd H a (.dK kvs) ∧ ∀ p, H p = none → Q (.ref p) (upd H p (.lst (kvs.map fun kv => kV kv.1)))
theorem call_listA {X : Cx} (calm : X.calm = true) : CallR X (.type "list") (rListA X.K) := by
  intro pins s σ H xs us Q I r h
  rcases h with h | h
  · exact call_list_of pins s σ H xs us Q I r h
  · exact call_listD calm pins s σ H xs us Q I r h
/-- list(..): a new list -/
def gList : List D → Option D
  | [.lst xs] => some (.lst xs)
  | [.tup xs] => some (.lst xs)
  | [.scr ns] => some (.lst (ns.map .int))
  | [.dct ks _] => some (.lst (ks.map keyD))
  | _ => none
theorem rps_ints : ∀ ns : List Int, Rps K F (ns.map V.int) (ns.map D.int)
  | [] => .nil
  | n :: ns => .cons (.int n) (rps_ints ns)
theorem fsem_list : FSem G (rListA G.K) gList := fun F H vs ds d Q fh vw e q => by
  unfold gList at e
  split at e
  · cases e
    obtain ⟨v, rfl, h⟩ := vw.one
    obtain ⟨a, zs, rfl, t, r⟩ := h.lst fh
    exact .inl ⟨a, zs, rfl, .inl (SqL.of t), fun l hl => q l _ hl ⟨_, rfl, r⟩⟩
  · cases e
    obtain ⟨v, rfl, h⟩ := vw.one
    obtain ⟨a, zs, rfl, t, r⟩ := h.sqT fh
    exact .inl ⟨a, zs, rfl, .inr t, fun l hl => q l _ hl ⟨_, rfl, r⟩⟩
  · rename_i ns
    cases e
    obtain ⟨v, rfl, h⟩ := vw.one
    rcases h with h | ⟨_, _, _, _, h⟩
    · cases h with
      | scr t => exact .inl ⟨_, _, rfl, .inl (fh.sqL t), fun l hl => q l _ hl ⟨_, rfl, rps_ints ns⟩⟩
    · exact h.elim
  · cases e
    obtain ⟨v, rfl, h⟩ := vw.one
    obtain ⟨a, kvs, rfl, rd, rfl, r⟩ := h.dct fh
    exact .inr ⟨a, kvs, rfl, rd, fun l hl => q l _ hl ⟨_, rfl, rps_keys⟩⟩
  · cases e
def gTuple : List D → Option D
  | [.lst xs] => some (.tup xs)
  | [.tup xs] => some (.tup xs)
  | _ => none
theorem psem_tuple : PSem G (fun xs H Q => ∃ p ys, xs = [V.ref p] ∧ ((SqL G.K H p ys ∧ NewT H ys Q) ∨ (SqT G.K H p ys ∧ Q (.ref p) H))) gTuple := fun F H vs ds d Q fh vw e q => by
  unfold gTuple at e
  split at e
  · cases e
    obtain ⟨v, rfl, h⟩ := vw.one
    obtain ⟨a, zs, rfl, t, r⟩ := h.lst fh
    exact ⟨a, zs, rfl, .inl ⟨SqL.of t, fun l o hl ho => q _ _ _ (New.obj fh hl _) (.tup (.new ho) (r.mono (FLe.upd _ (fh.noneOf hl))))⟩⟩
  · cases e
    obtain ⟨v, rfl, h⟩ := vw.one
    obtain ⟨a, zs, rfl, t, r⟩ := h.sqT fh
    rcases h with h | ⟨_, _, _, _, h⟩
    · exact ⟨a, zs, rfl, .inr ⟨t, fin_flat fh q h⟩⟩
    · exact h.elim
  · cases e

/-! ### slices -/
def rSlAll (K : PySem.W.Frag) : V → Option Int → Option Int → Hp → VK → Prop := fun x lo hi H Q => rSlZ K x lo hi H Q ∨ (rSlS x lo hi H Q ∨ rSlL K x lo hi H Q)
theorem sl_all {X : Cx} : SlR X (rSlAll X.K) := sl_tupZ.or (sl_str.or sl_list)
def cutD (xs : List D) (lo hi : Option Int) : List D := (xs.drop (HT.sIx xs.length 0 lo)).take (HT.sIx xs.length xs.length hi - HT.sIx xs.length 0 lo)
def sliceD (x : D) (lo hi : Option Int) : Option D := match x with
  | .tup xs => some (.tup (cutD xs lo hi))
  | .lst xs => some (.lst (cutD xs lo hi))
  | .str z => if z.length ≤ sizeLine then some (.str (cutS z lo hi)) else none
  | _ => none
theorem cut_rps {vs : List V} {ds : List D} (r : Rps K F vs ds) (lo hi : Option Int) : Rps K F (cutV vs lo hi) (cutD ds lo hi) := by
  unfold cutV cutD
  rw [r.length]
  exact (r.drop _).take _
theorem slice_vw {x : V} {d e : D} {lo hi : Option Int} {Q : VK} (fh : FLe F H) (h : Vw G.K F H x d) (s : sliceD d lo hi = some e) (q : ∀ v H' F', New F H F' H' → Rp G.K F' v e → Q v H') : rSlAll G.K x lo hi H Q := by
  cases d with
  | tup xs =>
    cases s
    obtain ⟨a, zs, rfl, t, r⟩ := h.sqT fh
    refine .inl ⟨a, zs, rfl, t, fun z => ?_, fun z p o hp ho => q _ _ _ (New.obj fh hp _) (.tup (.new ho) ((cut_rps r lo hi).mono (FLe.upd _ (fh.noneOf hp))))⟩
    have ec : cutD xs lo hi = xs := by
      unfold cutD
      rw [← r.length, z.1, z.2]
      simp [r.length]
    rw [ec] at q
    rcases h with h | ⟨_, _, _, _, h⟩
    · exact fin_flat fh q h
    · exact h.elim
  | lst xs =>
    cases s
    obtain ⟨a, zs, rfl, t, r⟩ := h.lst fh
    exact .inr (.inr ⟨a, zs, rfl, SqL.of t, fun p hp => q _ _ _ (New.obj fh hp _) (.lst upd_same ((cut_rps r lo hi).mono (FLe.upd _ (fh.noneOf hp))))⟩)
  | str z =>
    simp only [sliceD] at s
    split at s
    · rename_i hz
      cases s
      exact .inr (.inl ⟨z, h.str, hz, fin_flat fh q (.str _)⟩)
    · cases s
  | _ => simp only [sliceD] at s; cases s

/-! ### isinstance -/
def tyN : D → String
  | .non => "NoneType"
  | .bl _ => "bool"
  | .int _ => "int"
  | .str _ => "str"
  | .tup _ => "tuple"
  | .lst _ => "list"
  | .dct _ _ => "dict"
  | .scr _ => "list"
  | .arg _ => "tuple"
  | .fn _ => "NoneType"
  | .nd _ _ => "dict"
/-- a def as a value: its type is not asked -/
def D.isFn : D → Bool
  | .fn _ => true
  | .nd _ _ => true
  | _ => false
theorem ty_vw {v : V} {d : D} (fh : FLe F H) (h : Vw K F H v d) (hd : d.isFn = false) : TyX K H v (.type (tyN d)) := by
  rcases h with h | ⟨p, o, rfl, h1, h2⟩
  · cases h with
    | fn _ => cases hd
    | nd _ _ _ _ => cases hd
    | non => exact .base .non
    | bl b => exact .base (.bl b)
    | int b => exact .base (.int b)
    | str b => exact .base (.str b)
    | arg t r =>
      rcases fh.sqT t with (t | ⟨o, t⟩) | ⟨o, its, n, hk, hc, _⟩
      · exact .base (.tup t)
      · exact .fTuple t
      · exact .kTuple hk hc
    | tup t r =>
      rcases fh.sqT (t.sq (K := K)) with (t | ⟨o, t⟩) | ⟨o, its, n, hk, hc, _⟩
      · exact .base (.tup t)
      · exact .fTuple t
      · exact .kTuple hk hc
    | lst t r => exact .base (.lst (fh _ _ t))
    | dct t r => exact .fDict (fh _ _ t)
    | scr t =>
      rcases fh.sqL t with (t | ⟨o, t⟩) | ⟨o, its, n, hk, hc, _⟩
      · exact .base (.lst t)
      · exact .base (.frz t)
      · exact .kList hk hc
  · cases d with
    | lst ds => obtain ⟨xs, rfl, _⟩ := h2; exact .base (.lst h1)
    | dct ks ds => obtain ⟨kvs, rfl, _⟩ := h2; exact .base (.dK h1)
    | nd ks ds => cases hd
    | _ => exact h2.elim
end
end Dt

set_option Elab.async false
set_option linter.all false
set_option maxRecDepth 100000
set_option maxHeartbeats 2000000
/-! The judgements' rules: expressions and tests. -/
namespace Dt
open PySem PySem.Spec PyProof.Rows L2

section
variable {K : PySem.W.Frag} {ex : String → Addr} {X : Cx} {W : WX} {σ : L2.St} {H : Hp}
abbrev GK (X : Cx) (ex : String → Addr) : Gx := ⟨X.K, ex⟩

theorem tO_mono {G : Gx} {s : SO} {Q Q' : VK} (h : tO G W s σ H Q) (w : ∀ v H, Q v H → Q' v H) : tO G W s σ H Q' := by
  obtain ⟨ρ, F, Rv, io, rel, q⟩ := h
  refine ⟨ρ, F, Rv, io, rel, ?_⟩
  revert q
  cases s ρ with
  | stuck => exact fun q => q
  | exc x ρ' => exact fun q => q
  | ok o ρ' => exact fun q v H' F' le rel' r => w v H' (q v H' F' le rel' r)
theorem tE_mono {G : Gx} {s : SE} {Q Q' : VK} (h : tE G W s σ H Q) (w : ∀ v H, Q v H → Q' v H) : tE G W s σ H Q' := by
  obtain ⟨ρ, F, Rv, io, rel, q⟩ := h
  refine ⟨ρ, F, Rv, io, rel, ?_⟩
  revert q
  cases s ρ with
  | stuck => exact fun q => q
  | exc x ρ' => exact fun q => q
  | ok o ρ' => exact fun q v H' F' le rel' r => w v H' (q v H' F' le rel' r)
theorem two_ops {G : Gx} {r : R2} {g : List D → Option D} {sa sb : SO} {Q : VK} (hg : PSem G (r2L r) g) (h : tE G W (sOps g (b2 sa sb)) σ H Q) : tO G W sa σ H fun x H1 => tO G W sb σ H1 fun y H2 => r x y H2 Q :=
  tO_mono (two_core (a := .Name Str.empty ⟨0, 0, 0, 0⟩) (b := .Name Str.empty ⟨0, 0, 0, 0⟩) (ops_core hg h)) fun x H1 z => tO_mono z fun y H2 ⟨x', y', e, z'⟩ => by cases e; exact z'
theorem two_opsF {G : Gx} {r : R2} {g : List D → Option D} {sa sb : SO} {Q : VK} (hg : FSem G (r2L r) g) (h : tF G W (sOps g (b2 sa sb)) σ H Q) : tO G W sa σ H fun x H1 => tO G W sb σ H1 fun y H2 => r x y H2 Q :=
  tO_mono (two_core (a := .Name Str.empty ⟨0, 0, 0, 0⟩) (b := .Name Str.empty ⟨0, 0, 0, 0⟩) (opsF_core hg h)) fun x H1 z => tO_mono z fun y H2 ⟨x', y', e, z'⟩ => by cases e; exact z'
theorem one_ops {G : Gx} {r : V → Hp → VK → Prop} {g : List D → Option D} {sa : SO} {Q : VK} (hg : PSem G (r1L r) g) (h : tE G W (sOps g (b1 sa)) σ H Q) : tO G W sa σ H fun x H1 => r x H1 Q :=
  tO_mono (one_core (ops_core hg h)) fun x H1 ⟨x', e, z'⟩ => by cases e; exact z'

variable {a b c : Expr} {pos : Pos} {sa sb sc : SO}
/-- a op b -/
theorem d_op {op : Operator} {r : R2} {g : List D → Option D} (ho : OpR X (binaryOp op) r) (hg : PSem (GK X ex) (r2L r) g) (ha : DO (GK X ex) X W a sa) (hb : DO (GK X ex) X W b sb) : DE (GK X ex) X W (.BinOp a op b pos) (sOps g (b2 sa sb)) :=
  wkE (pe_op ho ha hb) fun σ H Q h => two_ops hg h
theorem d_opF {op : Operator} {r : R2} {g : List D → Option D} (ho : OpR X (binaryOp op) r) (hg : FSem (GK X ex) (r2L r) g) (ha : DO (GK X ex) X W a sa) (hb : DO (GK X ex) X W b sb) : DF (GK X ex) X W (.BinOp a op b pos) (sOps g (b2 sa sb)) :=
  wkE (pe_op ho ha hb) fun σ H Q h => two_opsF hg h
theorem d_add (ha : DO (GK X ex) X W a sa) (hb : DO (GK X ex) X W b sb) : DE (GK X ex) X W (.BinOp a .Add b pos) (sOps gAdd (b2 sa sb)) := d_op op_addAll psem_add ha hb
theorem d_addF (ha : DO (GK X ex) X W a sa) (hb : DO (GK X ex) X W b sb) : DF (GK X ex) X W (.BinOp a .Add b pos) (sOps gCatL (b2 sa sb)) := d_opF op_cat fsem_catL ha hb
theorem d_sub (ha : DO (GK X ex) X W a sa) (hb : DO (GK X ex) X W b sb) : DE (GK X ex) X W (.BinOp a .Sub b pos) (sOps gSub (b2 sa sb)) := d_op op_sub psem_sub ha hb
theorem d_mul (ha : DO (GK X ex) X W a sa) (hb : DO (GK X ex) X W b sb) : DE (GK X ex) X W (.BinOp a .Mult b pos) (sOps gMul (b2 sa sb)) := d_op op_mulAll psem_mul ha hb
theorem d_div (ha : DO (GK X ex) X W a sa) (hb : DO (GK X ex) X W b sb) : DE (GK X ex) X W (.BinOp a .FloorDiv b pos) (sOps gDiv (b2 sa sb)) := d_op op_fdivW psem_div ha hb
theorem d_mod (ha : DO (GK X ex) X W a sa) (hb : DO (GK X ex) X W b sb) : DE (GK X ex) X W (.BinOp a .Mod b pos) (sOps gMod (b2 sa sb)) := d_op op_mod psem_mod ha hb
theorem d_pow (ha : DO (GK X ex) X W a sa) (hb : DO (GK X ex) X W b sb) : DE (GK X ex) X W (.BinOp a .Pow b pos) (sOps gPow (b2 sa sb)) := d_op op_pow psem_pow ha hb
theorem d_neg (ha : DO (GK X ex) X W a sa) : DE (GK X ex) X W (.UnaryOp .USub a pos) (sOps gNeg (b1 sa)) :=
  wkE (pe_un un_neg ha) fun σ H Q h => one_ops (r := rU fun i => .int (-i)) psem_neg h

/-! ### comparisons, as values and as tests -/
def sTst (s : SE) : ST := fun ρ => (s ρ).bind fun d ρ' => match d with
  | .bl k => .ok k ρ'
  | _ => .stuck
theorem tst_core {G : Gx} {s : SE} {Q : Bool → Hp → Prop} (h : tT G W (sTst s) σ H Q) : tE G W s σ H fun x H' => ∃ k, x = .bl k ∧ Q k H' := by
  obtain ⟨ρ, F, Rv, io, rel, q⟩ := h
  refine ⟨ρ, F, Rv, io, rel, ?_⟩
  unfold sTst at q
  cases e : s ρ with
  | stuck => rw [e] at q; exact q.elim
  | exc x ρ' => rw [e] at q; exact q
  | ok d ρ' =>
    rw [e, R.bind_ok] at q
    cases d with
    | bl k => intro v H' F' le rel' r; cases r; exact ⟨k, rfl, q H' F' le rel'⟩
    | _ => exact q.elim
theorem d_cmp {op : CmpOp} {r : R2} {g : List D → Option D} (ho : OpR X (compareOp op) r) (hg : PSem (GK X ex) (r2L r) g) (ha : DO (GK X ex) X W a sa) (hb : DO (GK X ex) X W b sb) (hm : behindInMarks op b = false) : DE (GK X ex) X W (.Compare a [op] [b] pos) (sOps g (b2 sa sb)) :=
  wkE (pe_cmpR ho ha hb hm) fun σ H Q h => two_ops hg h
theorem d_tcmp {op : CmpOp} {r : R2} {g : List D → Option D} (ho : OpR X (compareOp op) r) (hg : PSem (GK X ex) (r2L r) g) (ha : DO (GK X ex) X W a sa) (hb : DO (GK X ex) X W b sb) (hm : behindInMarks op b = false) : DT (GK X ex) X W (.Compare a [op] [b] pos) (sTst (sOps g (b2 sa sb))) :=
  wkT (pt_cmpR ho ha hb hm) fun σ H Q h => two_ops hg (tst_core h)
/-- a op1 b op2 c; b is a value that is looked at once -/
def sChain (g g' : List D → Option D) (sa sb sc : SO) : SE := fun ρ => (sa ρ).bind fun x ρ1 => (sb ρ1).bind fun y ρ2 => (ofO ((getAll ρ2 [x, y]).bind g) ρ2).bind fun z ρ2 => match z with
  | .bl true => (sc ρ2).bind fun w ρ3 => ofO ((getAll ρ3 [y, w]).bind g') ρ3
  | .bl false => .ok (.bl false) ρ2
  | _ => .stuck
theorem chain_core {G : Gx} {r r' : R2} {g g' : List D → Option D} (hg : PSem G (r2L r) g) (hg' : PSem G (r2L r') g') {Q : VK} (h : tE G W (sChain g g' sa sb sc) σ H Q) : tChain r r' (tO G W sa) (tO G W sb) (tO G W sc) σ H Q := by
  obtain ⟨ρ, F, Rv, io, rel, q⟩ := h
  refine ⟨ρ, F, Rv, io, rel, ?_⟩
  unfold sChain at q
  cases e : sa ρ with
  | stuck => rw [e] at q; exact q.elim
  | exc x ρ' => rw [e] at q; exact q
  | ok x ρ1 =>
    rw [e, R.bind_ok] at q
    refine fun v H1 F1 le1 rel1 ok1 => ⟨ρ1, F1, Rv, io, rel1, ?_⟩
    cases e2 : sb ρ1 with
    | stuck => rw [e2] at q; exact q.elim
    | exc x ρ' => rw [e2] at q; exact XPost.le q le1
    | ok y ρ2 =>
      rw [e2, R.bind_ok] at q
      refine fun w H2 F2 le2 rel2 ok2 => ?_
      cases e3 : getAll ρ2 [x, y] with
      | none => rw [e3] at q; exact q.elim
      | some ds =>
        rw [e3, Option.bind_some] at q
        cases e4 : g ds with
        | none => rw [e4] at q; exact q.elim
        | some z =>
          rw [e4] at q
          have vw := rel2.views (.cons (ok1.mono le2) (.cons ok2 .nil)) e3
          obtain ⟨_, _, e5, z5⟩ := hg F2 H2 [v, w] ds z (fun zv H3 => ∃ k, zv = .bl k ∧ if k = true then tO G W sc σ H3 (fun w' H4 => r' w w' H4 Q) else Q (.bl false) H3) rel2.fH vw e4 (by
            intro zv H3 F3 n rp
            cases z with
            | bl k =>
              cases rp
              refine ⟨k, rfl, ?_⟩
              have rel3 := rel2.after n
              cases k with
              | false => exact iteF (q _ H3 F3 ((le1.trans le2).trans n.f) rel3 (.bl false))
              | true =>
                refine iteT ⟨ρ2, F3, Rv, io, rel3, ?_⟩
                simp only [ofO, R.bind_ok] at q
                cases e6 : sc ρ2 with
                | stuck => rw [e6] at q; exact q.elim
                | exc x ρ' => rw [e6] at q; exact XPost.le q ((le1.trans le2).trans n.f)
                | ok u ρ3 =>
                  rw [e6, R.bind_ok] at q
                  refine fun w' H4 F4 le4 rel4 ok4 => ?_
                  cases e7 : getAll ρ3 [y, u] with
                  | none => rw [e7] at q; exact q.elim
                  | some ds' =>
                    rw [e7, Option.bind_some] at q
                    cases e8 : g' ds' with
                    | none => rw [e8] at q; exact q.elim
                    | some z' =>
                      rw [e8] at q
                      have vw' := rel4.views (.cons (ok2.mono (n.f.trans le4)) (.cons ok4 .nil)) e7
                      obtain ⟨_, _, e9, z9⟩ := hg' F4 H4 [w, w'] ds' z' Q rel4.fH vw' e8 fun zv H5 F5 n5 rp5 => q zv H5 F5 ((((le1.trans le2).trans n.f).trans le4).trans n5.f) (rel4.after n5) rp5
                      cases e9; exact z9
            | _ => exact q.elim)
          cases e5; exact z5
theorem d_chain {op op' : CmpOp} {r r' : R2} {g g' : List D → Option D} (ho : OpR X (compareOp op) r) (ho' : OpR X (compareOp op') r') (hg : PSem (GK X ex) (r2L r) g) (hg' : PSem (GK X ex) (r2L r') g') (ha : DO (GK X ex) X W a sa) (hb : DO (GK X ex) X W b sb) (hc : DO (GK X ex) X W c sc)
    (hm : lastMarks [op, op'] [b, c] = false := by with_unfolding_all rfl) : DE (GK X ex) X W (.Compare a [op, op'] [b, c] pos) (sChain g g' sa sb sc) :=
  wkE (pe_chain ho ho' ha hb hc hm) fun σ H Q h => chain_core hg hg' h
theorem d_tchain {op op' : CmpOp} {r r' : R2} {g g' : List D → Option D} (ho : OpR X (compareOp op) r) (ho' : OpR X (compareOp op') r') (hg : PSem (GK X ex) (r2L r) g) (hg' : PSem (GK X ex) (r2L r') g') (ha : DO (GK X ex) X W a sa) (hb : DO (GK X ex) X W b sb) (hc : DO (GK X ex) X W c sc)
    (hm : lastMarks [op, op'] [b, c] = false := by with_unfolding_all rfl) : DT (GK X ex) X W (.Compare a [op, op'] [b, c] pos) (sTst (sChain g g' sa sb sc)) :=
  wkT (pt_chain ho ho' ha hb hc hm) fun σ H Q h => chain_core hg hg' (tst_core h)

/-! ### truth -/
def D.truth : D → Option Bool
  | .non => some false
  | .bl b => some b
  | .int i => some (i != 0)
  | .str s => if s.length ≤ sizeLine then some ((s.length : Int) != 0) else none
  | .tup xs => some (!xs.isEmpty)
  | .lst xs => some (!xs.isEmpty)
  | _ => none
theorem isEmpty_rps {F : Hp} {vs : List V} {ds : List D} (r : Rps K F vs ds) : vs.isEmpty = ds.isEmpty := by cases r <;> rfl
theorem Vw.truth {F : Hp} {v : V} {d : D} {k : Bool} (fh : FLe F H) (h : Vw K F H v d) (e : d.truth = some k) : TruV K v H k := by
  cases d with
  | non => cases e; have := h.non; subst this; rfl
  | bl b => cases e; have := h.bl; subst this; rfl
  | int i => cases e; have := h.int; subst this; rfl
  | str z =>
    simp only [D.truth] at e
    split at e
    · rename_i hz; cases e; have := h.str; subst this; exact ⟨hz, rfl⟩
    · cases e
  | tup xs => cases e; obtain ⟨a, zs, rfl, t, r⟩ := h.sqT fh; exact .inr (.inl ⟨zs, t, by rw [isEmpty_rps r]⟩)
  | lst xs => cases e; obtain ⟨a, zs, rfl, t, r⟩ := h.lst fh; exact .inl ⟨zs, SqL.of t, by rw [isEmpty_rps r]⟩
  | _ => simp only [D.truth] at e; cases e
def sTru (s : SO) : ST := fun ρ => (s ρ).bind fun o ρ' => ofO ((o.get ρ').bind D.truth) ρ'
theorem tru_core {G : Gx} {s : SO} {Q : Bool → Hp → Prop} (h : tT G W (sTru s) σ H Q) : tO G W s σ H fun x H' => ∃ k, TruV G.K x H' k ∧ Q k H' := by
  obtain ⟨ρ, F, Rv, io, rel, q⟩ := h
  refine ⟨ρ, F, Rv, io, rel, ?_⟩
  unfold sTru at q
  cases e : s ρ with
  | stuck => rw [e] at q; exact q.elim
  | exc x ρ' => rw [e] at q; exact q
  | ok o ρ' =>
    rw [e, R.bind_ok] at q
    intro v H' F' le rel' ok
    cases e1 : o.get ρ' with
    | none => rw [e1] at q; exact q.elim
    | some d =>
      rw [e1, Option.bind_some] at q
      cases e2 : d.truth with
      | none => rw [e2] at q; exact q.elim
      | some k => rw [e2] at q; exact ⟨k, (rel'.view ok e1).truth rel'.fH e2, q H' F' le rel'⟩
/-- any expression as a test, by its truth -/
theorem d_tru (ha : DO (GK X ex) X W a sa) (he : ∀ whole, isTrue a X.env whole = (do let v ← whole; standAt a.pos; holding [v] (truthy v)) := by intro _; rfl) : DT (GK X ex) X W a (sTru sa) :=
  wkT (pt_truth ha he) fun σ H Q h => tru_core h

/-! ### and, or, not -/
def tAndS (s t : ST) : ST := fun ρ => (s ρ).bind fun k ρ' => match k with
  | true => t ρ'
  | false => .ok false ρ'
def tOrS (s t : ST) : ST := fun ρ => (s ρ).bind fun k ρ' => match k with
  | true => .ok true ρ'
  | false => t ρ'
def tNotS (s : ST) : ST := fun ρ => (s ρ).bind fun k ρ' => .ok (!k) ρ'
abbrev DW (G : Gx) (X : Cx) (W : WX) (e : Expr) (s : ST) : Prop := PW X e (tT G W s)
theorem wkW {X : Cx} {e : Expr} {t u : TT} (h : PW X e t) (w : ∀ σ H Q, u σ H Q → t σ H Q) : PW X e u := ⟨fun wh pins s σ H Q I q => h.run wh pins s σ H Q I (w σ H Q q)⟩
theorem and_core {G : Gx} {s t : ST} {Q : Bool → Hp → Prop} (h : tT G W (tAndS s t) σ H Q) : tAnd (tT G W s) (tT G W t) σ H Q := by
  obtain ⟨ρ, F, Rv, io, rel, q⟩ := h
  refine ⟨ρ, F, Rv, io, rel, ?_⟩
  unfold tAndS at q
  cases e : s ρ with
  | stuck => rw [e] at q; exact q.elim
  | exc x ρ' => rw [e] at q; exact q
  | ok k ρ' =>
    rw [e, R.bind_ok] at q
    intro H' F' le rel'
    cases k with
    | false => exact iteF (q H' F' le rel')
    | true =>
      refine iteT ⟨ρ', F', Rv, io, rel', ?_⟩
      revert q
      show (match t ρ' with | .ok b ρ'' => _ | .exc x ρ'' => _ | .stuck => False) → _
      cases t ρ' with
      | stuck => exact fun q => q
      | exc x ρ'' => exact fun q => XPost.le q le
      | ok k2 ρ'' => exact fun q H2 F2 le2 rel2 => q H2 F2 (le.trans le2) rel2
theorem or_core {G : Gx} {s t : ST} {Q : Bool → Hp → Prop} (h : tT G W (tOrS s t) σ H Q) : tOr (tT G W s) (tT G W t) σ H Q := by
  obtain ⟨ρ, F, Rv, io, rel, q⟩ := h
  refine ⟨ρ, F, Rv, io, rel, ?_⟩
  unfold tOrS at q
  cases e : s ρ with
  | stuck => rw [e] at q; exact q.elim
  | exc x ρ' => rw [e] at q; exact q
  | ok k ρ' =>
    rw [e, R.bind_ok] at q
    intro H' F' le rel'
    cases k with
    | true => exact iteT (q H' F' le rel')
    | false =>
      refine iteF ⟨ρ', F', Rv, io, rel', ?_⟩
      revert q
      show (match t ρ' with | .ok b ρ'' => _ | .exc x ρ'' => _ | .stuck => False) → _
      cases t ρ' with
      | stuck => exact fun q => q
      | exc x ρ'' => exact fun q => XPost.le q le
      | ok k2 ρ'' => exact fun q H2 F2 le2 rel2 => q H2 F2 (le.trans le2) rel2
variable {s t : ST} {rest : List Expr}
theorem d_wand1 (h : DT (GK X ex) X W a s) : DW (GK X ex) X W (.BoolOp .And [a] pos) s := pw_and1 h
theorem d_wor1 (h : DT (GK X ex) X W a s) : DW (GK X ex) X W (.BoolOp .Or [a] pos) s := pw_or1 h
theorem d_wand (h : DT (GK X ex) X W a s) (h2 : DW (GK X ex) X W (.BoolOp .And (b :: rest) pos) t) : DW (GK X ex) X W (.BoolOp .And (a :: b :: rest) pos) (tAndS s t) := wkW (pw_and h h2) fun σ H Q q => and_core q
theorem d_wor (h : DT (GK X ex) X W a s) (h2 : DW (GK X ex) X W (.BoolOp .Or (b :: rest) pos) t) : DW (GK X ex) X W (.BoolOp .Or (a :: b :: rest) pos) (tOrS s t) := wkW (pw_or h h2) fun σ H Q q => or_core q
theorem d_tnot (h : DT (GK X ex) X W a s) : DT (GK X ex) X W (.UnaryOp .Not a pos) (tNotS s) := wkT (pt_not h) fun σ H Q q => by
  obtain ⟨ρ, F, Rv, io, rel, q⟩ := q
  refine ⟨ρ, F, Rv, io, rel, ?_⟩
  unfold tNotS at q
  cases e : s ρ with
  | stuck => rw [e] at q; exact q.elim
  | exc x ρ' => rw [e] at q; exact q
  | ok k ρ' => rw [e] at q; exact q
/-- .. as values: by truth -/
def sAnd (s t : SE) : SE := fun ρ => (s ρ).bind fun d ρ' => match d.truth with
  | some true => t ρ'
  | some false => .ok d ρ'
  | none => .stuck
def sOr (s t : SE) : SE := fun ρ => (s ρ).bind fun d ρ' => match d.truth with
  | some true => .ok d ρ'
  | some false => t ρ'
  | none => .stuck
def sNot (s : SO) : SE := fun ρ => (sTru s ρ).bind fun k ρ' => .ok (.bl (!k)) ρ'
variable {ea eb : SE}
theorem d_one {op} (h : DE (GK X ex) X W a ea) : DE (GK X ex) X W (.BoolOp op [a] pos) ea := pe_one h
theorem d_and (ha : DE (GK X ex) X W a ea) (hb : DE (GK X ex) X W (.BoolOp .And (b :: rest) pos) eb) : DE (GK X ex) X W (.BoolOp .And (a :: b :: rest) pos) (sAnd ea eb) := wkE (pe_andT ha hb) fun σ H Q h => by
  obtain ⟨ρ, F, Rv, io, rel, q⟩ := h
  refine ⟨ρ, F, Rv, io, rel, ?_⟩
  unfold sAnd at q
  cases e : ea ρ with
  | stuck => rw [e] at q; exact q.elim
  | exc x ρ' => rw [e] at q; exact q
  | ok d ρ' =>
    rw [e, R.bind_ok] at q
    intro v H' F' le rel' rp
    cases e2 : d.truth with
    | none => rw [e2] at q; exact q.elim
    | some k =>
      rw [e2] at q
      refine ⟨k, Vw.truth rel'.fH (.inl rp) e2, ?_⟩
      cases k with
      | false => exact iteF (q v H' F' le rel' rp)
      | true =>
        refine iteT ⟨ρ', F', Rv, io, rel', ?_⟩
        revert q
        show (match eb ρ' with | .ok b ρ'' => _ | .exc x ρ'' => _ | .stuck => False) → _
        cases eb ρ' with
        | stuck => exact fun q => q
        | exc x ρ'' => exact fun q => XPost.le q le
        | ok k2 ρ'' => exact fun q => EPost.le q le
theorem d_or (ha : DE (GK X ex) X W a ea) (hb : DE (GK X ex) X W (.BoolOp .Or (b :: rest) pos) eb) : DE (GK X ex) X W (.BoolOp .Or (a :: b :: rest) pos) (sOr ea eb) := wkE (pe_orT ha hb) fun σ H Q h => by
  obtain ⟨ρ, F, Rv, io, rel, q⟩ := h
  refine ⟨ρ, F, Rv, io, rel, ?_⟩
  unfold sOr at q
  cases e : ea ρ with
  | stuck => rw [e] at q; exact q.elim
  | exc x ρ' => rw [e] at q; exact q
  | ok d ρ' =>
    rw [e, R.bind_ok] at q
    intro v H' F' le rel' rp
    cases e2 : d.truth with
    | none => rw [e2] at q; exact q.elim
    | some k =>
      rw [e2] at q
      refine ⟨k, Vw.truth rel'.fH (.inl rp) e2, ?_⟩
      cases k with
      | true => exact iteT (q v H' F' le rel' rp)
      | false =>
        refine iteF ⟨ρ', F', Rv, io, rel', ?_⟩
        revert q
        show (match eb ρ' with | .ok b ρ'' => _ | .exc x ρ'' => _ | .stuck => False) → _
        cases eb ρ' with
        | stuck => exact fun q => q
        | exc x ρ'' => exact fun q => XPost.le q le
        | ok k2 ρ'' => exact fun q => EPost.le q le
theorem d_not (ha : DO (GK X ex) X W a sa) : DE (GK X ex) X W (.UnaryOp .Not a pos) (sNot sa) := wkE (pe_notT ha) fun σ H Q h => by
  refine tru_core (Q := fun k H1 => Q (.bl (!k)) H1) ?_
  obtain ⟨ρ, F, Rv, io, rel, q⟩ := h
  refine ⟨ρ, F, Rv, io, rel, ?_⟩
  unfold sNot at q
  cases e : sTru sa ρ with
  | stuck => rw [e] at q; exact q.elim
  | exc x ρ' => rw [e] at q; exact q
  | ok d ρ' => rw [e] at q; exact fun H' F' le rel' => q _ H' F' le rel' (.bl _)
/-- not e, e itself a test -/
def sNotT (s : ST) : SE := fun ρ => (s ρ).bind fun k ρ' => .ok (.bl (!k)) ρ'
/-- a if t else b -/
def sIf (t : ST) (a b : SE) : SE := fun ρ => (t ρ).bind fun k ρ' => match k with
  | true => a ρ'
  | false => b ρ'
theorem d_if (hc : DT (GK X ex) X W c t) (ha : DE (GK X ex) X W a ea) (hb : DE (GK X ex) X W b eb) : DE (GK X ex) X W (.IfExp c a b pos) (sIf t ea eb) := wkE (pe_ifExp hc ha hb) fun σ H Q h => by
  obtain ⟨ρ, F, Rv, io, rel, q⟩ := h
  refine ⟨ρ, F, Rv, io, rel, ?_⟩
  unfold sIf at q
  cases e : t ρ with
  | stuck => rw [e] at q; exact q.elim
  | exc x ρ' => rw [e] at q; exact q
  | ok k ρ' =>
    rw [e, R.bind_ok] at q
    intro H' F' le rel'
    cases k with
    | true =>
      refine iteT ⟨ρ', F', Rv, io, rel', ?_⟩
      revert q
      show (match ea ρ' with | .ok b ρ'' => _ | .exc x ρ'' => _ | .stuck => False) → _
      cases ea ρ' with
      | stuck => exact fun q => q
      | exc x ρ'' => exact fun q => XPost.le q le
      | ok k2 ρ'' => exact fun q => EPost.le q le
    | false =>
      refine iteF ⟨ρ', F', Rv, io, rel', ?_⟩
      revert q
      show (match eb ρ' with | .ok b ρ'' => _ | .exc x ρ'' => _ | .stuck => False) → _
      cases eb ρ' with
      | stuck => exact fun q => q
      | exc x ρ'' => exact fun q => XPost.le q le
      | ok k2 ρ'' => exact fun q => EPost.le q le
end
end Dt

set_option Elab.async false
set_option linter.all false
set_option maxRecDepth 100000
set_option maxHeartbeats 2000000
/-! The judgements' rules: subscripts, slices, displays, built-in functions, isinstance, walks, comprehensions. -/
namespace Dt
open PySem PySem.Spec PyProof.Rows L2

section
variable {ex : String → Addr} {X : Cx} {W : WX} {σ : L2.St} {H : Hp} {a b c e : Expr} {es : List Expr} {pos p : Pos} {sa sb sc : SO} {ea eb : SE} {sB : SB} {sA : SA} {x : Str} {id : String}

/-! ### subscripts -/
theorem ix_dct {X : Cx} (hu : X.A.units + 64 < cLine) : IxR X (fun x y H Q => ∃ a v, x = .ref a ∧ DGet H a y (some v) ∧ Q v H) := by
  intro value slice pins s σ H x y v u Q I rx ry h hs
  obtain ⟨a, w, rfl, g, q⟩ := h
  obtain rfl : v = Value.ref a := rx
  exact tail_any (ops := [.ref a, u]) (dict_typeIs I g) PySem.F.slot_dict_getitem.lookup (d_getItem (by omega) I g ry fun w' s3 I3 rw' => ⟨w, H, I3, rw', q⟩) hs
theorem d_idx (hu : At X W) (ha : DO (GK X ex) X W a sa) (hb : DO (GK X ex) X W b sb) (hs : PlainIx b := by intro _ _; rfl) : DE (GK X ex) X W (.Subscript a b pos) (sOps gIdx (b2 sa sb)) :=
  wkE (pe_ix (ix_seq.or (ix_dct hu.un)) ha hb hs) fun σ H Q h => two_ops (r := rIxA X.K) psem_idx h
/-- a part of a slice -/
abbrev SP' := Env → R (Option Int)
def tP (G : Gx) (W : WX) (s : SP') : TO := fun σ H Q => ∃ ρ F Rv io, Rel G.K io Rv ρ F σ H ∧ match s ρ with
  | .ok b ρ' => ∀ H' F', FLe F F' → Rel G.K io Rv ρ' F' σ H' → Q b H'
  | .exc x ρ' => XPost G W io Rv F ρ' x
  | .stuck => False
def sPn : SP' := fun ρ => .ok none ρ
def sPe (s : SE) : SP' := fun ρ => (s ρ).bind fun d ρ' => match d with
  | .int i => .ok (some i) ρ'
  | _ => .stuck
abbrev DP (G : Gx) (X : Cx) (W : WX) (e : Option Expr) (s : SP') : Prop := PO X e (tP G W s)
theorem wkP {X : Cx} {e : Option Expr} {t u : TO} (h : PO X e t) (w : ∀ σ H Q, u σ H Q → t σ H Q) : PO X e u := ⟨fun pins s σ H Q I q => h.run pins s σ H Q I (w σ H Q q)⟩
theorem d_pn : DP (GK X ex) X W none sPn := wkP po_none fun σ H Q ⟨ρ, F, Rv, io, rel, q⟩ => q H F (FLe.refl F) rel
theorem d_pe (h : DE (GK X ex) X W e ea) : DP (GK X ex) X W (some e) (sPe ea) := wkP (po_some h) fun σ H Q ⟨ρ, F, Rv, io, rel, q⟩ => by
  refine ⟨ρ, F, Rv, io, rel, ?_⟩
  unfold sPe at q
  cases e : ea ρ with
  | stuck => rw [e] at q; exact q.elim
  | exc x ρ' => rw [e] at q; exact q
  | ok d ρ' =>
    rw [e, R.bind_ok] at q
    cases d with
    | int i => intro v H' F' le rel' rp; cases rp; exact ⟨i, rfl, q H' F' le rel'⟩
    | _ => exact q.elim
def sSlice (s : SO) (lo hi : SP') : SE := fun ρ => (s ρ).bind fun o ρ1 => (lo ρ1).bind fun l ρ2 => (hi ρ2).bind fun h ρ3 => ofO ((o.get ρ3).bind fun d => sliceD d l h) ρ3
theorem d_slice {lo hi : Option Expr} {sl sh : SP'} {p2 : Pos} (ha : DO (GK X ex) X W a sa) (hl : DP (GK X ex) X W lo sl) (hh : DP (GK X ex) X W hi sh) : DE (GK X ex) X W (.Subscript a (.Slice lo hi none p2) pos) (sSlice sa sl sh) :=
  wkE (pe_slice sl_all ha hl hh) fun σ H Q ⟨ρ, F, Rv, io, rel, q⟩ => by
    refine ⟨ρ, F, Rv, io, rel, ?_⟩
    unfold sSlice at q
    cases e : sa ρ with
    | stuck => rw [e] at q; exact q.elim
    | exc x ρ' => rw [e] at q; exact q
    | ok o ρ1 =>
      rw [e, R.bind_ok] at q
      refine fun v H1 F1 le1 rel1 ok1 => ⟨ρ1, F1, Rv, io, rel1, ?_⟩
      cases e2 : sl ρ1 with
      | stuck => rw [e2] at q; exact q.elim
      | exc x ρ' => rw [e2] at q; exact XPost.le q le1
      | ok l ρ2 =>
        rw [e2, R.bind_ok] at q
        refine fun H2 F2 le2 rel2 => ⟨ρ2, F2, Rv, io, rel2, ?_⟩
        cases e3 : sh ρ2 with
        | stuck => rw [e3] at q; exact q.elim
        | exc x ρ' => rw [e3] at q; exact XPost.le q (le1.trans le2)
        | ok h ρ3 =>
          rw [e3, R.bind_ok] at q
          refine fun H3 F3 le3 rel3 => ?_
          cases e4 : o.get ρ3 with
          | none => rw [e4] at q; exact q.elim
          | some d =>
            rw [e4, Option.bind_some] at q
            cases e5 : sliceD d l h with
            | none => rw [e5] at q; exact q.elim
            | some z =>
              rw [e5] at q
              exact slice_vw (G := GK X ex) rel3.fH (rel3.view (G := GK X ex) (ok1.mono (le2.trans le3)) e4) e5 fun w H4 F4 n rp => q w H4 F4 (((le1.trans le2).trans le3).trans n.f) (rel3.after n) rp
/-- xs[::-1]: a new list -/
def sRev (s : SO) : SE := fun ρ => (s ρ).bind fun o ρ' => match o.get ρ' with
  | some (.lst xs) => .ok (.lst xs.reverse) ρ'
  | _ => .stuck
theorem d_revF {k : Nat} {p1 p2 p3 : Pos} (ha : DO (GK X ex) X W a sa) : DF (GK X ex) X W (.Subscript a (.Slice none none (some (.UnaryOp .USub (.Constant (.int 1) k p1) p2)) p3) pos) (sRev sa) :=
  wkE (pe_revL ha) fun σ H Q ⟨ρ, F, Rv, io, rel, q⟩ => by
    refine ⟨ρ, F, Rv, io, rel, ?_⟩
    unfold sRev at q
    cases e : sa ρ with
    | stuck => rw [e] at q; exact q.elim
    | exc x ρ' => rw [e] at q; exact q
    | ok o ρ1 =>
      rw [e, R.bind_ok] at q
      refine fun v H1 F1 le1 rel1 ok1 => ?_
      cases e4 : o.get ρ1 with
      | none => rw [e4] at q; exact q.elim
      | some d =>
        rw [e4] at q
        cases d with
        | lst xs =>
          obtain ⟨a, zs, rfl, t, r⟩ := (rel1.view (G := GK X ex) ok1 e4).lst rel1.fH
          refine ⟨a, zs, rfl, SqL.of t, fun p hp => q p _ F1 le1 (rel1.newH hp _) ⟨rel1.fH.noneOf hp, rel1.rH.noneOf hp, _, upd_same, _, rfl, r.reverse⟩ (rel1.loose hp)⟩
        | _ => exact q.elim

/-! ### displays; new objects frozen -/
theorem d_fz (h : DF (GK X ex) X W e ea) : DE (GK X ex) X W e ea := wkE (pe_lk h) fun σ H Q ⟨ρ, F, Rv, io, rel, q⟩ => by
  refine ⟨ρ, F, Rv, io, rel, ?_⟩
  revert q
  cases ea ρ with
  | stuck => exact fun q => q
  | exc x ρ' => exact fun q => q
  | ok d ρ' =>
    intro q p H' F' le rel' ow lo
    obtain ⟨o, h1, h2⟩ := ow.at_
    refine .inr ⟨p, o, rfl, h1, h2.lkb, fun od => ?_⟩
    have le2 := FLe.upd (p := p) (lk od o) ow.nF
    have nR : ∀ a u, Rv a = some u → a ≠ p := fun a u e z => by subst z; rw [ow.nR] at e; cases e
    refine q _ (upd H' p (lk od o)) (upd F' p (lk od o)) (le.trans le2) ⟨fun a u e => ?_, fun a u e => by rw [upd_ne (nR a u e)]; exact rel'.rH a u e, fun a u e => ?_, rel'.len, fun i c v e1 e2 => ?_, rel'.inj, rel'.ios, rel'.ioc, fun t ht => let q := rel'.tab t ht; let ⟨ps, ep⟩ := q.tbl; q.mv (by rw [upd_ne (own_ne ow ep)]; exact q.1) q.2.1 (fun ps e => by rw [upd_ne (own_ne ow e)]; exact e) le2⟩ ((h2.mono le2).rp upd_same)
    · by_cases z : a = p
      · subst z; rw [upd_same] at e; cases e; exact upd_same
      · rw [upd_ne z] at e; rw [upd_ne z]; exact rel'.fH a u e
    · by_cases z : a = p
      · subst z; exact ow.nR
      · rw [upd_ne z] at e; exact rel'.dj a u e
    · have q := rel'.cell i c v e1 e2
      have keep : ∀ {p' d'}, c.held = some d' → v = some (.ref p') → OwnAt X.K F' Rv H' p' d' → OwnAt X.K (upd F' p (lk od o)) Rv (upd H' p (lk od o)) p' d' := fun {p' d'} h3 h4 w => by
        obtain ⟨o', e, q3⟩ := w.at_
        have ne : p' ≠ p := by intro z; subst z; subst h4; exact lo i c d' e1 h3 e2
        exact ⟨by rw [upd_ne ne]; exact w.nF, w.nR, o', by rw [upd_ne ne]; exact e, q3.mono le2⟩
      cases c with
      | no => trivial
      | fro d' => obtain ⟨y, e, q⟩ := q; exact ⟨y, e, q.mono le2⟩
      | own d' => obtain ⟨p', e, q⟩ := q; exact ⟨p', e, keep rfl e q⟩
      | io d' => obtain ⟨p', e, q⟩ := q; exact ⟨p', e, keep rfl e q⟩
def sTup (s : SA) : SE := fun ρ => (s ρ).bind fun ds ρ' => if ds.length ≤ sizeLine then .ok (.tup ds) ρ' else .stuck
def sLst (s : SA) : SE := fun ρ => (s ρ).bind fun ds ρ' => if ds.length ≤ sizeLine then .ok (.lst ds) ρ' else .stuck
theorem d_tup {k : Nat} (h : DA (GK X ex) X W es sA) : DE (GK X ex) X W (.Tuple es k pos) (sTup sA) := wkE (pe_tupZ h) fun σ H Q ⟨ρ, F, Rv, io, rel, q⟩ => by
  refine ⟨ρ, F, Rv, io, rel, ?_⟩
  unfold sTup at q
  cases e : sA ρ with
  | stuck => rw [e] at q; exact q.elim
  | exc x ρ' => rw [e] at q; exact q
  | ok ds ρ' =>
    rw [e, R.bind_ok] at q
    intro vs H' F' le rel' r
    by_cases hz : ds.length ≤ sizeLine
    · rw [if_pos hz] at q
      exact ⟨by rw [r.length]; exact hz, fun p o hp ho => q _ _ _ (le.trans (FLe.upd _ (rel'.fH.noneOf hp))) (rel'.new hp _) (.tup (.new ho) (r.mono (FLe.upd _ (rel'.fH.noneOf hp))))⟩
    · rw [if_neg hz] at q; exact q.elim
theorem d_lstF (h : DA (GK X ex) X W es sA) : DF (GK X ex) X W (.List es pos) (sLst sA) := wkE (pe_lst h) fun σ H Q ⟨ρ, F, Rv, io, rel, q⟩ => by
  refine ⟨ρ, F, Rv, io, rel, ?_⟩
  unfold sLst at q
  cases e : sA ρ with
  | stuck => rw [e] at q; exact q.elim
  | exc x ρ' => rw [e] at q; exact q
  | ok ds ρ' =>
    rw [e, R.bind_ok] at q
    intro vs H' F' le rel' r
    by_cases hz : ds.length ≤ sizeLine
    · rw [if_pos hz] at q
      exact ⟨by rw [r.length]; exact hz, fun p hp => q p _ F' le (rel'.newH hp _) ⟨rel'.fH.noneOf hp, rel'.rH.noneOf hp, _, upd_same, _, rfl, r⟩ (rel'.loose hp)⟩
    · rw [if_neg hz] at q; exact q.elim
theorem d_lst (h : DA (GK X ex) X W es sA) : DE (GK X ex) X W (.List es pos) (sLst sA) := d_fz (d_lstF h)
/-- {}: keys will be ints and texts -/
theorem d_dctF : DF (GK X ex) X W (.Dict [] [] pos) (sCst (.dct [] [])) := wkE pe_dnewK fun σ H Q ⟨ρ, F, Rv, io, rel, q⟩ =>
  fun p hp => q p _ F (FLe.refl F) (rel.newH hp _) ⟨rel.fH.noneOf hp, rel.rH.noneOf hp, _, upd_same, [], rfl, rfl, .nil⟩ (rel.loose hp)

/-! ### built-in functions -/
theorem d_callB {r : RL} {g : List D → Option D} (hc : CallR X (.builtin id) r) (hG : PSem (GK X ex) r g) (hg : Gl X x) (hm : X.mg x = none) (ha : DB (GK X ex) X W (e :: es) sB) (hv : bootBuiltins x = some (.builtin id) := by decide +kernel) (hn : x ≠ "__name__" := by decide) (hdb : (x == ("__debug__" : Str)) = false := by decide)
    (he : starEach (e :: es) X.env = (false, eval e X.env) :: starEach es X.env := by rfl) (hpl : (backTo pos (starEach es X.env)).any (·.1) = false := by rfl) : DE (GK X ex) X W (.Call (.Name x p) (e :: es) [] pos) (sOps g sB) :=
  wkE (pe_callB hc hg hm hv ha hn hdb he hpl) fun σ H Q h => ops_core hG h
theorem d_callTy {r : RL} {g : List D → Option D} (hc : CallR X (.type id) r) (hG : PSem (GK X ex) r g) (hg : Gl X x) (hm : X.mg x = none) (ha : DB (GK X ex) X W (e :: es) sB) (hv : bootBuiltins x = some (.type id) := by decide +kernel) (hn : x ≠ "__name__" := by decide) (hdb : (x == ("__debug__" : Str)) = false := by decide)
    (he : starEach (e :: es) X.env = (false, eval e X.env) :: starEach es X.env := by rfl) (hpl : (backTo pos (starEach es X.env)).any (·.1) = false := by rfl) : DE (GK X ex) X W (.Call (.Name x p) (e :: es) [] pos) (sOps g sB) :=
  wkE (pe_callTy hc hg hm hv ha hn hdb he hpl) fun σ H Q h => ops_core hG h
theorem d_callTyF {r : RL} {g : List D → Option D} (hc : CallR X (.type id) r) (hG : FSem (GK X ex) r g) (hg : Gl X x) (hm : X.mg x = none) (ha : DB (GK X ex) X W (e :: es) sB) (hv : bootBuiltins x = some (.type id) := by decide +kernel) (hn : x ≠ "__name__" := by decide) (hdb : (x == ("__debug__" : Str)) = false := by decide)
    (he : starEach (e :: es) X.env = (false, eval e X.env) :: starEach es X.env := by rfl) (hpl : (backTo pos (starEach es X.env)).any (·.1) = false := by rfl) : DF (GK X ex) X W (.Call (.Name x p) (e :: es) [] pos) (sOps g sB) :=
  wkE (pe_callTy hc hg hm hv ha hn hdb he hpl) fun σ H Q h => opsF_core hG h

/-! ### isinstance -/
/-- of a built-in type: bool is an int -/
def isTn (n t : String) : Bool := n == t || (t == "int" && n == "bool")
def isT (d : D) (t : String) : Bool := isTn (tyN d) t
def kindL : List String := ["int", "bool", "str", "tuple", "list", "dict"]
abbrev Kinds (t : String) : Prop := t ∈ kindL
theorem kit_all : ("NoneType" :: kindL).all (fun n => kindL.all fun t => kitB n t == some (isTn n t)) = true := by decide +kernel
theorem tyN_mem (d : D) : tyN d ∈ "NoneType" :: kindL := by cases d <;> simp [tyN, kindL]
theorem kit_isT {K : PySem.W.Frag} (d : D) {t : String} (h : Kinds t) : PySem.W.kitOne K (.type (tyN d)) (.type t) = some (isT d t) := by
  refine kit_ty ?_
  have z := List.all_eq_true.mp (List.all_eq_true.mp kit_all _ (tyN_mem d)) t h
  exact beq_iff_eq.mp z
def isTo (ts : List String) (d : D) : Option D := if d.isFn = true then none else some (.bl (ts.any (isT d)))
def sIsi (ts : List String) (s : SO) : SE := fun ρ => (s ρ).bind fun o ρ' => ofO ((o.get ρ').bind (isTo ts)) ρ'
theorem isi_core {G : Gx} {ts : List String} {Q : VK} (h : tE G W (sIsi ts sa) σ H Q) : tO G W sa σ H fun x H1 => ∃ F d, FLe F H1 ∧ Vw G.K F H1 x d ∧ d.isFn = false ∧ ∀ H2, FLe H1 H2 → Q (.bl (ts.any (isT d))) H2 := by
  obtain ⟨ρ, F, Rv, io, rel, q⟩ := h
  refine ⟨ρ, F, Rv, io, rel, ?_⟩
  unfold sIsi at q
  cases e : sa ρ with
  | stuck => rw [e] at q; exact q.elim
  | exc x ρ' => rw [e] at q; exact q
  | ok o ρ' =>
    rw [e, R.bind_ok] at q
    intro v H' F' le rel' ok
    cases e1 : o.get ρ' with
    | none => rw [e1] at q; exact q.elim
    | some d =>
      rw [e1, Option.bind_some] at q
      unfold isTo at q
      cases hd : d.isFn with
      | true => rw [if_pos hd] at q; exact q.elim
      | false =>
      rw [if_neg (by rw [hd]; decide)] at q
      exact ⟨F', d, rel'.fH, rel'.view ok e1, hd, fun H2 h2 => q _ H2 F' le (rel'.grow (FLe.refl _) h2 (rel'.fH.trans h2) fun _ _ e => .inl e) (.bl _)⟩
theorem isi_gl (hg : Gl X "isinstance") (hm : X.mg "isinstance" = none) {t : TA} {r : RL} {e2 : Expr} (hc : CallR X (.builtin "isinstance") r) (ha : PA X (a :: e2 :: []) t) (he : starEach (a :: e2 :: []) X.env = (false, eval a X.env) :: starEach (e2 :: []) X.env) (hpl : (backTo pos (starEach (e2 :: []) X.env)).any (·.1) = false) :
    PE X (.Call (.Name "isinstance" p) (a :: e2 :: []) [] pos) (tCB r t) := pe_callB hc hg hm (by decide +kernel) ha (by decide) (by decide) he hpl
theorem d_isi1 {t : Str} {ty : String} {q : Pos} (hg : Gl X "isinstance") (hm : X.mg "isinstance" = none) (ht : Kinds ty) (gt : Gl X t) (mt : X.mg t = none) (ha : DO (GK X ex) X W a sa) (hv : bootBuiltins t = some (.type ty) := by decide +kernel) (hn : t ≠ "__name__" := by decide) (hdb : (t == ("__debug__" : Str)) = false := by decide)
    (he : starEach (a :: (.Name t q) :: []) X.env = (false, eval a X.env) :: starEach ((.Name t q) :: []) X.env := by rfl) (hpl : (backTo pos (starEach ((.Name t q) :: []) X.env)).any (·.1) = false := by rfl) (hs2 : starEach ((.Name t q) :: []) X.env = (false, eval (.Name t q) X.env) :: starEach [] X.env := by rfl) :
    DE (GK X ex) X W (.Call (.Name "isinstance" p) (a :: (.Name t q) :: []) [] pos) (sIsi [ty] sa) :=
  wkE (isi_gl hg hm call_isi (pa_cons ha (pa_cons (pe_bltn (v := .ty ty) gt mt hv rfl hn hdb) pa_nil hs2) he) he hpl) fun σ H Q h =>
    tO_mono (isi_core h) fun x H1 ⟨F, d, fh, vw, hd, q⟩ => ⟨x, .ty ty, .type (tyN d), .type ty, isT d ty, rfl, .ty _, ty_vw fh vw hd, kit_isT d ht, by have z := q H1 (FLe.refl _); simpa using z⟩
theorem d_isi2 {t t' : Str} {ty ty' : String} {q q' q2 : Pos} {k : Nat} (hg : Gl X "isinstance") (hm : X.mg "isinstance" = none) (ht : Kinds ty) (ht' : Kinds ty') (gt : Gl X t) (mt : X.mg t = none) (gt' : Gl X t') (mt' : X.mg t' = none) (ha : DO (GK X ex) X W a sa)
    (hv : bootBuiltins t = some (.type ty) := by decide +kernel) (hn : t ≠ "__name__" := by decide) (hdb : (t == ("__debug__" : Str)) = false := by decide) (hv' : bootBuiltins t' = some (.type ty') := by decide +kernel) (hn' : t' ≠ "__name__" := by decide) (hdb' : (t' == ("__debug__" : Str)) = false := by decide)
    (he : starEach (a :: (.Tuple [.Name t q, .Name t' q'] k q2) :: []) X.env = (false, eval a X.env) :: starEach ((.Tuple [.Name t q, .Name t' q'] k q2) :: []) X.env := by rfl) (hpl : (backTo pos (starEach ((.Tuple [.Name t q, .Name t' q'] k q2) :: []) X.env)).any (·.1) = false := by rfl)
    (hs2 : starEach ((.Tuple [.Name t q, .Name t' q'] k q2) :: []) X.env = (false, eval (.Tuple [.Name t q, .Name t' q'] k q2) X.env) :: starEach [] X.env := by rfl)
    (hs3 : starEach (.Name t q :: [.Name t' q']) X.env = (false, eval (.Name t q) X.env) :: starEach [.Name t' q'] X.env := by rfl) (hs4 : starEach (.Name t' q' :: []) X.env = (false, eval (.Name t' q') X.env) :: starEach [] X.env := by rfl) :
    DE (GK X ex) X W (.Call (.Name "isinstance" p) (a :: (.Tuple [.Name t q, .Name t' q'] k q2) :: []) [] pos) (sIsi [ty, ty'] sa) :=
  wkE (isi_gl hg hm call_isiT (pa_cons ha (pa_cons (pe_tup (pa_cons (pe_bltn (v := .ty ty) gt mt hv rfl hn hdb) (pa_cons (pe_bltn (v := .ty ty') gt' mt' hv' rfl hn' hdb') pa_nil hs4) hs3)) pa_nil hs2) he) he hpl) fun σ H Q h =>
    tO_mono (isi_core h) fun x H1 ⟨F, d, fh, vw, hd, q⟩ => ⟨(by show 2 ≤ sizeLine; decide), fun pp hp => ⟨x, pp, [.ty ty, .ty ty'], .type (tyN d), [.type ty, .type ty'], [ty, ty'].any (isT d), rfl, upd_same, .cons (.ty _) (.cons (.ty _) .nil),
      (by
        have g := ty_vw (K := X.K) (fh.trans (FLe.upd (.tup [.ty ty, .ty ty']) hp)) (v := x) (d := d) (by
          rcases vw with z | ⟨p', o, e1, e2, e3⟩
          · exact .inl z
          · exact .inr ⟨p', o, e1, by rw [upd_ne (ne_of_none e2 hp)]; exact e2, e3⟩) hd
        exact g),
      (by
        have k1 := kit_isT (K := X.K) d ht
        have k2 := kit_isT (K := X.K) d ht'
        cases e1 : isT d ty <;> cases e2 : isT d ty' <;> rw [e1] at k1 <;> rw [e2] at k2
        · exact kitAny_cons k1 (fun _ => kitAny_cons k2 (fun _ => by simp [e1, e2, kitAny_nil]) (fun z => nomatch z)) (fun z => nomatch z)
        · exact kitAny_cons k1 (fun _ => kitAny_cons k2 (fun z => nomatch z) (fun _ => by simp [e1, e2])) (fun z => nomatch z)
        · exact kitAny_cons k1 (fun z => nomatch z) (fun _ => by simp [e1])
        · exact kitAny_cons k1 (fun z => nomatch z) (fun _ => by simp [e1])), q _ (FLe.upd _ hp)⟩⟩
end
end Dt

set_option Elab.async false
set_option linter.all false
set_option maxRecDepth 100000
set_option maxHeartbeats 2000000
/-! The judgements' rules: walks, targets, comprehensions, statements. -/
namespace Dt
open PySem PySem.Spec PyProof.Rows L2

/-- an iterator that gives these, whatever more there is -/
structure IterOk (K : PySem.W.Frag) (J : It) (F : Hp) (ds : List D) : Prop where
  go : ∀ (i : Nat) (F1 H : Hp), FLe F F1 → FLe F1 H → i < ds.length → J.go i H
  stop : ∀ (F1 H : Hp), FLe F F1 → FLe F1 H → J.stop ds.length H
  yld : ∀ (i : Nat) (F1 H H' : Hp) (x : V) (d : D), FLe F F1 → FLe F1 H → ds[i]? = some d → J.yld i H x H' → ∃ F2, New F1 H F2 H' ∧ Rp K F2 x d
def tI (G : Gx) (W : WX) (s : SA) : TI := fun σ H Q => ∃ ρ F Rv io, Rel G.K io Rv ρ F σ H ∧ match s ρ with
  | .ok ds ρ' => ∀ J H' F', FLe F F' → Rel G.K io Rv ρ' F' σ H' → IterOk G.K J F' ds → Q J H'
  | .exc x ρ' => XPost G W io Rv F ρ' x
  | .stuck => False
abbrev DI (G : Gx) (X : Cx) (W : WX) (tg e : Expr) (s : SA) : Prop := PI X tg e (tI G W s)
theorem wkI {X : Cx} {tg e : Expr} {t u : TI} (h : PI X tg e t) (w : ∀ σ H Q, u σ H Q → t σ H Q) : PI X tg e u := ⟨fun pins s σ H Q I q => h.run pins s σ H Q I (w σ H Q q)⟩

section
variable {K : PySem.W.Frag} {F : Hp}
theorem iter_lst {a : Addr} {xs : List V} {ds : List D} (t : F a = some (.lst xs)) (r : Rps K F xs ds) : IterOk K (Itl K a) F ds := by
  have at_ : ∀ {F1 H : Hp}, FLe F F1 → FLe F1 H → SqL K H a xs := fun h1 h2 => SqL.of (h2 _ _ (h1 _ _ t))
  refine ⟨fun i F1 H h1 h2 hi => ?_, fun F1 H h1 h2 => ⟨xs, at_ h1 h2, Nat.le_of_eq r.length⟩, fun i F1 H H' x d h1 h2 e y => ?_⟩
  · have hi' : i < xs.length := by rw [r.length]; exact hi
    exact ⟨xs, xs[i], at_ h1 h2, by simp [hi']⟩
  · obtain ⟨v, e1, rp⟩ := r.get e
    have e2 := y.2 xs (at_ h1 h2)
    rw [e1] at e2
    cases e2
    rw [y.1]
    exact ⟨F1, New.refl h2, rp.mono h1⟩
theorem iter_tup {a : Addr} {xs : List V} {ds : List D} (t : SqT K F a xs) (r : Rps K F xs ds) : IterOk K (Itt K a) F ds := by
  have at_ : ∀ {F1 H : Hp}, FLe F F1 → FLe F1 H → SqT K H a xs := fun h1 h2 => h2.sqT (h1.sqT t)
  refine ⟨fun i F1 H h1 h2 hi => ?_, fun F1 H h1 h2 => ⟨xs, at_ h1 h2, Nat.le_of_eq r.length⟩, fun i F1 H H' x d h1 h2 e y => ?_⟩
  · have hi' : i < xs.length := by rw [r.length]; exact hi
    exact ⟨xs, xs[i], at_ h1 h2, by simp [hi']⟩
  · obtain ⟨v, e1, rp⟩ := r.get e
    have e2 := y.2 xs (at_ h1 h2)
    rw [e1] at e2
    cases e2
    rw [y.1]
    exact ⟨F1, New.refl h2, rp.mono h1⟩
/-- a dict by its keys: it is locked -/
theorem iter_dct {a : Addr} {od : Obj} {kvs : List (Key × V)} (t : F a = some (.frz od (.dK kvs))) : IterOk K (Itk a od kvs) F ((kvs.map (·.1)).map keyD) := by
  have at_ : ∀ {F1 H : Hp}, FLe F F1 → FLe F1 H → H a = some (.frz od (.dK kvs)) := fun h1 h2 => h2 _ _ (h1 _ _ t)
  refine ⟨fun i F1 H h1 h2 hi => ⟨at_ h1 h2, by simpa using hi⟩, fun F1 H h1 h2 => ⟨at_ h1 h2, by simp⟩, fun i F1 H H' x d h1 h2 e y => ?_⟩
  obtain ⟨e1, k, v, e2, rfl⟩ := y
  rw [e1]
  refine ⟨F1, New.refl h2, ?_⟩
  rw [List.getElem?_map, List.getElem?_map, e2] at e
  cases e
  exact rp_key k
def signs (z : Str) : List D := z.cps.toList.map fun c => .str ⟨#[c]⟩
theorem iter_str {z : Str} : IterOk K (Its z) F (signs z) := by
  refine ⟨fun i F1 H h1 h2 hi => (show i < z.cps.size from by simpa [signs] using hi), fun F1 H h1 h2 => by simp [signs, Its], fun i F1 H H' x d h1 h2 e y => ?_⟩
  obtain ⟨e1, c, e2, rfl⟩ := y
  rw [e1]
  refine ⟨F1, New.refl h2, ?_⟩
  have e3 : z.cps.toList[i]? = some c := by simpa using e2
  unfold signs at e
  rw [List.getElem?_map, e3] at e
  cases e
  exact .str _
def upto (lo : Int) (n : Nat) : List D := (List.range n).map fun i => .int (lo + (i : Nat))
theorem iter_rng {lo : Int} {n : Nat} : IterOk K (Itr lo n) F (upto lo n) := by
  refine ⟨fun i F1 H h1 h2 hi => by simpa [upto, Itr] using hi, fun F1 H h1 h2 => by simp [upto, Itr], fun i F1 H H' x d h1 h2 e y => ?_⟩
  obtain ⟨e1, rfl⟩ := y
  rw [e1]
  refine ⟨F1, New.refl h2, ?_⟩
  unfold upto at e
  rw [List.getElem?_map] at e
  cases e2 : (List.range n)[i]? with
  | none => rw [e2] at e; cases e
  | some j =>
    rw [e2] at e
    have e3 : j = i := by
      rw [List.getElem?_range] at e2
      · cases e2; rfl
      · by_cases h : i < n
        · exact h
        · rw [List.getElem?_eq_none (by simp; omega)] at e2; cases e2
    subst e3
    cases e
    exact .int _
end

section
variable {ex : String → Addr} {X : Cx} {W : WX} {σ : L2.St} {H : Hp} {a b c e tg : Expr} {es : List Expr} {pos p : Pos} {sa sb sc : SO} {ea eb : SE} {sB : SB} {sA : SA} {x : Str} {id : String}
/-- a list, a tuple, a text, a locked dict -/
theorem pi_any (he : PE X e ta) : PI X tg e (fun σ H R => ta σ H fun x H1 => (∃ a xs, x = V.ref a ∧ SqL X.K H1 a xs ∧ R (Itl X.K a) H1) ∨ (∃ a xs, x = V.ref a ∧ SqT X.K H1 a xs ∧ R (Itt X.K a) H1) ∨ (∃ z, x = V.str z ∧ R (Its z) H1) ∨ ∃ a od kvs, x = V.ref a ∧ H1 a = some (.frz od (.dK kvs)) ∧ R (Itk a od kvs) H1) := by
  refine ⟨fun pins s σ H R I h => thn (he.run pins s σ H _ I h) fun v s1 ⟨x, H1, I1, r1, q1⟩ => ?_⟩
  rcases q1 with ⟨a, xs, rfl, hq, q⟩ | ⟨a, xs, rfl, hq, q⟩ | ⟨z, rfl, q⟩ | ⟨a, od, kvs, rfl, hd, q⟩
  · obtain rfl : v = Value.ref a := r1
    obtain ⟨its, _, pl, _⟩ := I1.list hq
    exact wpAny_pyIter_list pl.isList (pi_one (tk := s1.toks) I1 _ (turn_list a _) ⟨_, Heap.get?_push_size _ rfl, rfl, rfl⟩ q)
  · obtain rfl : v = Value.ref a := r1
    obtain ⟨its, _, pl, _⟩ := I1.tuple hq
    exact wpAny_pyIter_tuple (show s1.heap.IsTuple a its.toArray from pl) (pi_one (tk := s1.toks) I1 _ (turn_tuple a _) ⟨_, Heap.get?_push_size _ rfl, rfl, rfl⟩ q)
  · obtain ⟨t, rfl⟩ := r1
    cases hz : z.cps.all (· < 128) with
    | false => exact wpAny_pyIter_wide hz (pi_one (tk := s1.toks) I1 _ (turn_str _ z t "str_iterator" (.inr rfl)) ⟨_, Heap.get?_push_size _ rfl, rfl, rfl⟩ q)
    | true => exact wpAny_pyIter_ascii hz (pi_one (tk := s1.toks) I1 _ (turn_str _ z t "str_ascii_iterator" (.inl rfl)) ⟨_, Heap.get?_push_size _ rfl, rfl, rfl⟩ q)
  · obtain rfl : v = Value.ref a := r1
    obtain ⟨hs, hgd, hx, es, ep, vs, hdt, hsz, kv, hm⟩ := I1.frzK hd
    refine iter_keys hs hgd hx hdt (pi_one (tk := s1.toks) I1 _ (turn_keys _ hdt) ⟨_, Heap.get?_push_size _ rfl, rfl, ?_⟩ q)
    rw [hsz] <;> rfl
def itemsD : D → Option (List D)
  | .lst ds => some ds
  | .tup ds => some ds
  | .str z => some (signs z)
  | .arg ds => some ds
  | .dct ks _ => some (ks.map keyD)
  | _ => none
def iAny (s : SE) : SA := fun ρ => (s ρ).bind fun d ρ' => ofO (itemsD d) ρ'
theorem d_iAny (h : DE (GK X ex) X W e ea) : DI (GK X ex) X W tg e (iAny ea) := wkI (pi_any h) fun σ H Q ⟨ρ, F, Rv, io, rel, q⟩ => by
  refine ⟨ρ, F, Rv, io, rel, ?_⟩
  unfold iAny at q
  cases e : ea ρ with
  | stuck => rw [e] at q; exact q.elim
  | exc x ρ' => rw [e] at q; exact q
  | ok d ρ' =>
    rw [e, R.bind_ok] at q
    intro v H' F' le rel' rp
    cases rp with
    | lst t r => exact .inl ⟨_, _, rfl, SqL.of (rel'.fH _ _ t), q _ H' F' le rel' (iter_lst t r)⟩
    | tup t r => exact .inr (.inl ⟨_, _, rfl, rel'.fH.sqT t.sq, q _ H' F' le rel' (iter_tup t.sq r)⟩)
    | arg t r => exact .inr (.inl ⟨_, _, rfl, rel'.fH.sqT t, q _ H' F' le rel' (iter_tup t r)⟩)
    | str z => exact .inr (.inr (.inl ⟨z, rfl, q _ H' F' le rel' iter_str⟩))
    | dct t r => exact .inr (.inr (.inr ⟨_, _, _, rfl, rel'.fH _ _ t, q _ H' F' le rel' (iter_dct t)⟩))
    | _ => exact q.elim
def rng1D : List D → Option (List D)
  | [.int j] => if -(2 ^ 62) ≤ j ∧ j < 2 ^ 62 then some (upto 0 j.toNat) else none
  | _ => none
theorem rng1D_some {ds zs : List D} (h : rng1D ds = some zs) : ∃ j : Int, ds = [.int j] ∧ -(2 ^ 62) ≤ j ∧ j < 2 ^ 62 ∧ zs = upto 0 j.toNat := by
  unfold rng1D at h
  split at h
  · rename_i j
    split at h
    · rename_i hj; cases h; exact ⟨j, rfl, hj.1, hj.2, rfl⟩
    · cases h
  · cases h
def iRng1' (s : SA) : SA := fun ρ => (s ρ).bind fun ds ρ' => ofO (rng1D ds) ρ'
theorem d_iRng1 {e : Expr} (hg : Gl X "range") (hm : X.mg "range" = none) (ha : DA (GK X ex) X W [e] sA) (hs : starEach [e] X.env = [(false, eval e X.env)] := by rfl) : DI (GK X ex) X W tg (.Call (.Name "range" p) [e] [] pos) (iRng1' sA) :=
  wkI (pi_range1 hg hm ha hs) fun σ H Q ⟨ρ, F, Rv, io, rel, q⟩ => by
    refine ⟨ρ, F, Rv, io, rel, ?_⟩
    unfold iRng1' at q
    cases e : sA ρ with
    | stuck => rw [e] at q; exact q.elim
    | exc x ρ' => rw [e] at q; exact q
    | ok ds ρ' =>
      rw [e, R.bind_ok] at q
      intro vs H' F' le rel' rp
      cases e2 : rng1D ds with
      | none => rw [e2] at q; exact q.elim
      | some zs =>
        rw [e2] at q
        obtain ⟨j, rfl, h1, h2, rfl⟩ := rng1D_some e2
        cases rp with
        | cons r rr => cases rr; cases r; exact ⟨j, rfl, h1, h2, q _ H' F' le rel' iter_rng⟩
def rng2D : List D → Option (List D)
  | [.int i, .int j] => if -(2 ^ 62) ≤ i ∧ i < 2 ^ 62 ∧ -(2 ^ 62) ≤ j ∧ j < 2 ^ 62 then some (upto i (j - i).toNat) else none
  | _ => none
theorem rng2D_some {ds zs : List D} (h : rng2D ds = some zs) : ∃ i j : Int, ds = [.int i, .int j] ∧ (-(2 ^ 62) ≤ i ∧ i < 2 ^ 62 ∧ -(2 ^ 62) ≤ j ∧ j < 2 ^ 62) ∧ zs = upto i (j - i).toNat := by
  unfold rng2D at h
  split at h
  · rename_i i j
    split at h
    · rename_i hj; cases h; exact ⟨i, j, rfl, hj, rfl⟩
    · cases h
  · cases h
def iRng2' (s : SA) : SA := fun ρ => (s ρ).bind fun ds ρ' => ofO (rng2D ds) ρ'
theorem d_iRng2 {e e2 : Expr} (hg : Gl X "range") (hm : X.mg "range" = none) (ha : DA (GK X ex) X W [e, e2] sA) (hs : starEach [e, e2] X.env = [(false, eval e X.env), (false, eval e2 X.env)] := by rfl) (hs2 : starEach [e2] X.env = [(false, eval e2 X.env)] := by rfl) :
    DI (GK X ex) X W tg (.Call (.Name "range" p) [e, e2] [] pos) (iRng2' sA) :=
  wkI (pi_range2 hg hm ha hs hs2) fun σ H Q ⟨ρ, F, Rv, io, rel, q⟩ => by
    refine ⟨ρ, F, Rv, io, rel, ?_⟩
    unfold iRng2' at q
    cases e : sA ρ with
    | stuck => rw [e] at q; exact q.elim
    | exc x ρ' => rw [e] at q; exact q
    | ok ds ρ' =>
      rw [e, R.bind_ok] at q
      intro vs H' F' le rel' rp
      cases e2 : rng2D ds with
      | none => rw [e2] at q; exact q.elim
      | some zs =>
        rw [e2] at q
        obtain ⟨i, j, rfl, h1, rfl⟩ := rng2D_some e2
        cases rp with
        | cons r rr => cases rr with
          | cons r2 rr => cases rr; cases r; cases r2; exact ⟨i, j, rfl, h1, q _ H' F' le rel' iter_rng⟩

/-! ### targets -/
def gSet (i : Nat) : SG := fun d ρ => match ρ[i]? with
  | some (.io _) => .stuck
  | none => .stuck
  | _ => .ok () (ρ.set i (.fro d))
theorem wkG {X : Cx} {e : Expr} {t u : TG} (h : PG X e t) (w : ∀ v σ H Q, u v σ H Q → t v σ H Q) : PG X e u := ⟨fun pins s σ H v vv Q I r q => h.run pins s σ H v vv Q I r (w v σ H Q q)⟩
theorem gSet_ok {ρ ρ' : Env} {i : Nat} {d : D} {u : Unit} (h : gSet i d ρ = .ok u ρ') : (∀ e, ρ[i]? ≠ some (Cell.io e)) ∧ ρ' = ρ.set i (.fro d) := by
  unfold gSet at h
  split at h
  · cases h
  · cases h
  · rename_i h1 h2
    cases h
    exact ⟨fun e z => h1 e z, rfl⟩
theorem d_gName {i : Nat} (hN : X.N.Nodup) (hi : X.N[i]? = some x) (hx : Loc X.env.scope x) (hf : X.fn x = true ∨ X.env.scope.names.lookup x = some .local) : DG (GK X ex) X W [i] (.Name x pos) (gSet i) :=
  wkG (pg_name hN hi hx hf) fun v σ H Q ⟨d, ρ, F, Rv, io, rel, rp, q⟩ => by
    show Q (σ.set i (some v)) H
    cases e : gSet i d ρ with
    | stuck => rw [e] at q; exact q.elim
    | exc x ρ' => unfold gSet at e; split at e <;> cases e
    | ok u ρ' =>
      rw [e] at q
      obtain ⟨h1, rfl⟩ := gSet_ok e
      exact q _ H F (FLe.refl F) (rel.setFro rp h1) ⟨List.length_set, fun j hj => List.getElem?_set_ne fun z => hj (by simp [z])⟩
abbrev SGs := List D → Env → R Unit
def tGs (G : Gx) (W : WX) (js : List Nat) (s : SGs) : TGs := fun vs σ H Q => ∃ ds ρ F Rv io, Rel G.K io Rv ρ F σ H ∧ Rps G.K F vs ds ∧ match s ds ρ with
  | .ok _ ρ' => ∀ σ' H' F', FLe F F' → Rel G.K io Rv ρ' F' σ' H' → Keeps js σ σ' → Q σ' H'
  | .exc x ρ' => XPost G W io Rv F ρ' x
  | .stuck => False
abbrev DGs (G : Gx) (X : Cx) (W : WX) (js : List Nat) (e : List Expr) (s : SGs) : Prop := PGs X e (tGs G W js s)
theorem wkGs {X : Cx} {e : List Expr} {t u : TGs} (h : PGs X e t) (w : ∀ v σ H Q, u v σ H Q → t v σ H Q) : PGs X e u := ⟨fun pins s σ H v vv Q I r q => h.run pins s σ H v vv Q I r (w v σ H Q q)⟩
def gN : SGs := fun ds ρ => match ds with
  | [] => .ok () ρ
  | _ => .stuck
def gC (g : SG) (gs : SGs) : SGs := fun ds ρ => match ds with
  | d :: ds => (g d ρ).bind fun _ ρ' => gs ds ρ'
  | [] => .stuck
theorem d_gN : DGs (GK X ex) X W [] [] gN := wkGs pgs_nil fun v σ H Q ⟨ds, ρ, F, Rv, io, rel, rp, q⟩ => by
  cases rp with
  | nil => exact ⟨rfl, q σ H F (FLe.refl F) rel ⟨rfl, fun _ _ => rfl⟩⟩
  | cons _ _ => exact q.elim
theorem d_gC {g : SG} {gs : SGs} {js ks : List Nat} (h : DG (GK X ex) X W js e g) (h2 : DGs (GK X ex) X W ks es gs) (hs : (assignEach (e :: es) X.env).map (·.2) = assign e X.env :: (assignEach es X.env).map (·.2) := by rfl) : DGs (GK X ex) X W (js ++ ks) (e :: es) (gC g gs) :=
  wkGs (pgs_cons h h2 hs) fun vs σ H Q ⟨ds, ρ, F, Rv, io, rel, rp, q⟩ => by
    cases rp with
    | nil => exact q.elim
    | @cons v vs d ds r rr =>
      refine ⟨v, vs, rfl, d, ρ, F, Rv, io, rel, r, ?_⟩
      have q : (match (g d ρ).bind fun _ ρ' => gs ds ρ' with | .ok _ ρ' => ∀ σ' H' F', FLe F F' → Rel X.K io Rv ρ' F' σ' H' → Keeps (js ++ ks) σ σ' → Q σ' H' | .exc x ρ' => XPost (GK X ex) W io Rv F ρ' x | .stuck => False) := q
      cases e : g d ρ with
      | stuck => rw [e] at q; exact q.elim
      | exc x ρ' => rw [e] at q; exact q
      | ok u ρ' =>
        rw [e, R.bind_ok] at q
        refine fun σ' H' F' le rel' hj => ⟨ds, ρ', F', Rv, io, rel', rr.mono le, ?_⟩
        cases e2 : gs ds ρ' with
        | stuck => rw [e2] at q; exact q.elim
        | exc x ρ'' => rw [e2] at q; exact XPost.le q le
        | ok u ρ'' => rw [e2] at q; exact fun σ2 H2 F2 le2 rel2 hj2 => q σ2 H2 F2 (le.trans le2) rel2 ⟨hj2.1.trans hj.1, fun j hjk => (hj2.2 j fun z => hjk (List.mem_append_right _ z)).trans (hj.2 j fun z => hjk (List.mem_append_left _ z))⟩
/-- (a, b, ..): of a tuple or of a list -/
def gTup' (n : Nat) (gs : SGs) : SG := fun d ρ => match d with
  | .tup ds => if ds.length = n then gs ds ρ else .stuck
  | .lst ds => if ds.length = n then gs ds ρ else .stuck
  | .arg ds => if ds.length = n then gs ds ρ else .stuck
  | _ => .stuck
theorem pg_both {k n : Nat} {t : TGs} (hc : X.calm = true) (h : PGs X es t) (hn : (assignEach es X.env).length = n) (hst : (assignEach es X.env).findIdx? (·.1) = none) :
    PG X (.Tuple es k pos) (fun v σ H Q => gTup X.K n t v σ H Q ∨ gUnl X.K n t v σ H Q) :=
  ⟨fun pins s σ H v u Q I r hw => hw.elim (fun hw => (pg_tup hc h hn hst).run pins s σ H v u Q I r hw) fun hw => (pg_unl hc h hn hst).run pins s σ H v u Q I r hw⟩
theorem d_gTup {k n : Nat} {gs : SGs} {js : List Nat} (hc : X.calm = true) (h : DGs (GK X ex) X W js es gs) (hn : (assignEach es X.env).length = n := by rfl) (hst : (assignEach es X.env).findIdx? (·.1) = none := by rfl) : DG (GK X ex) X W js (.Tuple es k pos) (gTup' n gs) :=
  wkG (pg_both hc h hn hst) fun v σ H Q ⟨d, ρ, F, Rv, io, rel, rp, q⟩ => by
    cases d with
    | tup ds =>
      obtain ⟨a, xs, rfl, t, r⟩ := Vw.sqT (F := F) rel.fH (.inl rp)
      have q : (match (if ds.length = n then gs ds ρ else .stuck) with | .ok _ ρ' => ∀ σ' H' F', FLe F F' → Rel X.K io Rv ρ' F' σ' H' → Keeps js σ σ' → Q σ' H' | .exc x ρ' => XPost (GK X ex) W io Rv F ρ' x | .stuck => False) := q
      by_cases hl : ds.length = n
      · rw [if_pos hl] at q
        exact .inl ⟨a, xs, rfl, t, by rw [r.length]; exact hl, ds, ρ, F, Rv, io, rel, r, q⟩
      · rw [if_neg hl] at q; exact q.elim
    | arg ds =>
      obtain ⟨a, xs, rfl, t, r⟩ : ∃ a xs, v = .ref a ∧ SqT X.K F a xs ∧ Rps X.K F xs ds := by cases rp with | arg t r => exact ⟨_, _, rfl, t, r⟩
      have q : (match (if ds.length = n then gs ds ρ else .stuck) with | .ok _ ρ' => ∀ σ' H' F', FLe F F' → Rel X.K io Rv ρ' F' σ' H' → Keeps js σ σ' → Q σ' H' | .exc x ρ' => XPost (GK X ex) W io Rv F ρ' x | .stuck => False) := q
      by_cases hl : ds.length = n
      · rw [if_pos hl] at q
        exact .inl ⟨a, xs, rfl, rel.fH.sqT t, by rw [r.length]; exact hl, ds, ρ, F, Rv, io, rel, r, q⟩
      · rw [if_neg hl] at q; exact q.elim
    | lst ds =>
      obtain ⟨a, xs, rfl, t, r⟩ := Vw.lst (F := F) rel.fH (.inl rp)
      have q : (match (if ds.length = n then gs ds ρ else .stuck) with | .ok _ ρ' => ∀ σ' H' F', FLe F F' → Rel X.K io Rv ρ' F' σ' H' → Keeps js σ σ' → Q σ' H' | .exc x ρ' => XPost (GK X ex) W io Rv F ρ' x | .stuck => False) := q
      by_cases hl : ds.length = n
      · rw [if_pos hl] at q
        exact .inr ⟨a, xs, rfl, SqL.of t, by rw [r.length]; exact hl, ds, ρ, F, Rv, io, rel, r, q⟩
      · rw [if_neg hl] at q; exact q.elim
    | _ => exact q.elim

/-! ### comprehensions -/
def wipeE (ρ : Env) : List Nat → Env
  | [] => ρ
  | v :: vs => (wipeE ρ vs).set v .no
/-- the cells of the block's own names as they were -/
def backE (ρ0 ρ : Env) : List Nat → Env
  | [] => ρ
  | v :: vs => match ρ0[v]? with
    | some c => (backE ρ0 ρ vs).set v c
    | none => backE ρ0 ρ vs
def plainAt (ρ : Env) (vs : List Nat) : Bool := vs.all fun v => match ρ[v]? with
  | some .no => true
  | some (.fro _) => true
  | _ => false
def compGo (vs : List Nat) (g : SG) (t : ST) (s : SE) : List D → Env → R (List D)
  | [], ρ => .ok [] ρ
  | d :: ds, ρ => (g d ρ).bind fun _ ρ1 => (t ρ1).bind fun k ρ2 => match k with
    | true => (s ρ2).bind fun z ρ3 => if plainAt ρ3 vs = true then (compGo vs g t s ds (wipeE ρ3 vs)).bind fun zs ρ4 => .ok (z :: zs) ρ4 else .stuck
    | false => if plainAt ρ2 vs = true then compGo vs g t s ds (wipeE ρ2 vs) else .stuck
def noX {α : Type} : R α → R α
  | .ok a ρ => .ok a ρ
  | _ => .stuck
def sComp (vs : List Nat) (it : SA) (g : SG) (t : ST) (s : SE) : SE := fun ρ => (it ρ).bind fun ds ρ1 =>
  if plainAt ρ1 vs = true ∧ ds.length ≤ sizeLine then (noX (compGo vs g t s ds (wipeE ρ1 vs))).bind fun zs ρ2 => .ok (.lst zs) (backE ρ1 ρ2 vs) else .stuck
abbrev W0 : WX := fun _ _ _ _ => False

theorem wipe_get {σ : L2.St} {i : Nat} : ∀ vs : List Nat, (wipe σ vs)[i]? = if i ∈ vs then (σ[i]?).map fun _ => none else σ[i]?
  | [] => by simp [wipe]
  | v :: vs => by
    have ih := wipe_get (σ := σ) (i := i) vs
    unfold wipe
    rw [List.getElem?_set, wipe_length]
    by_cases h : v = i
    · subst h
      rw [if_pos rfl, if_pos (show v ∈ v :: vs from List.mem_cons_self)]
      by_cases hl : v < σ.length
      · rw [if_pos hl]; simp [hl]
      · rw [if_neg hl]; rw [List.getElem?_eq_none (by omega)]; rfl
    · rw [if_neg h, ih]
      by_cases h2 : i ∈ vs
      · rw [if_pos h2, if_pos (List.mem_cons_of_mem _ h2)]
      · rw [if_neg h2, if_neg (by simp only [List.mem_cons, not_or]; exact ⟨fun z => h z.symm, h2⟩)]
theorem wipe_same {σ σ' : L2.St} {vs : List Nat} (hl : σ'.length = σ.length) (h : ∀ j, j ∉ vs → σ'[j]? = (wipe σ vs)[j]?) : wipe σ' vs = wipe σ vs := by
  refine List.ext_getElem? fun j => ?_
  rw [wipe_get, wipe_get]
  by_cases hj : j ∈ vs
  · rw [if_pos hj, if_pos hj]
    by_cases hz : j < σ.length
    · rw [List.getElem?_eq_getElem (by omega), List.getElem?_eq_getElem hz]; rfl
    · rw [List.getElem?_eq_none (by omega), List.getElem?_eq_none (by omega)]
  · have q := h j hj
    rw [wipe_get, if_neg hj] at q
    rw [if_neg hj, if_neg hj, q]
theorem wipeE_len {ρ : Env} : ∀ vs : List Nat, (wipeE ρ vs).length = ρ.length
  | [] => rfl
  | v :: vs => by unfold wipeE; rw [List.length_set]; exact wipeE_len vs
theorem wipeE_get {ρ : Env} {i : Nat} : ∀ vs : List Nat, (wipeE ρ vs)[i]? = if i ∈ vs then (ρ[i]?).map fun _ => Cell.no else ρ[i]?
  | [] => by simp [wipeE]
  | v :: vs => by
    have ih := wipeE_get (ρ := ρ) (i := i) vs
    unfold wipeE
    rw [List.getElem?_set, wipeE_len]
    by_cases h : v = i
    · subst h
      rw [if_pos rfl, if_pos (show v ∈ v :: vs from List.mem_cons_self)]
      by_cases hl : v < ρ.length
      · rw [if_pos hl]; simp [hl]
      · rw [if_neg hl]; rw [List.getElem?_eq_none (by omega)]; rfl
    · rw [if_neg h, ih]
      by_cases h2 : i ∈ vs
      · rw [if_pos h2, if_pos (List.mem_cons_of_mem _ h2)]
      · rw [if_neg h2, if_neg (by simp only [List.mem_cons, not_or]; exact ⟨fun z => h z.symm, h2⟩)]
theorem backE_get {ρ0 ρ : Env} {i : Nat} (hl : ρ0.length = ρ.length) : ∀ vs : List Nat, (backE ρ0 ρ vs).length = ρ.length ∧ (backE ρ0 ρ vs)[i]? = if i ∈ vs then ρ0[i]? else ρ[i]?
  | [] => by simp [backE]
  | v :: vs => by
    obtain ⟨hlen, ih⟩ := backE_get (ρ0 := ρ0) (ρ := ρ) (i := i) hl vs
    unfold backE
    cases e : ρ0[v]? with
    | none =>
      refine ⟨hlen, ?_⟩
      show (backE ρ0 ρ vs)[i]? = _
      rw [ih]
      by_cases h : v = i
      · subst h
        rw [if_pos (show v ∈ v :: vs by simp)]
        have hv := List.getElem?_eq_none_iff.mp e
        by_cases h2 : v ∈ vs
        · rw [if_pos h2]
        · rw [if_neg h2, e, List.getElem?_eq_none (by omega)]
      · by_cases h2 : i ∈ vs
        · rw [if_pos h2, if_pos (List.mem_cons_of_mem _ h2)]
        · rw [if_neg h2, if_neg (by simp only [List.mem_cons, not_or]; exact ⟨fun z => h z.symm, h2⟩)]
    | some c =>
      refine ⟨by show ((backE ρ0 ρ vs).set v c).length = _; rw [List.length_set, hlen], ?_⟩
      show ((backE ρ0 ρ vs).set v c)[i]? = _
      rw [List.getElem?_set, hlen]
      have hv := (List.getElem?_eq_some_iff.mp e).1
      by_cases h : v = i
      · subst h
        rw [if_pos rfl, if_pos (show v < ρ.length by omega), if_pos (show v ∈ v :: vs from List.mem_cons_self), e]
      · rw [if_neg h, ih]
        by_cases h2 : i ∈ vs
        · rw [if_pos h2, if_pos (List.mem_cons_of_mem _ h2)]
        · rw [if_neg h2, if_neg (by simp only [List.mem_cons, not_or]; exact ⟨fun z => h z.symm, h2⟩)]
theorem plain_at {ρ : Env} {vs : List Nat} (h : plainAt ρ vs = true) {v : Nat} (hv : v ∈ vs) {c : Cell} (e : ρ[v]? = some c) : c = .no ∨ ∃ d, c = .fro d := by
  have q := List.all_eq_true.mp h v hv
  rw [e] at q
  cases c with
  | no => exact .inl rfl
  | fro d => exact .inr ⟨d, rfl⟩
  | own d => cases q
  | io d => cases q
section
variable {K : PySem.W.Frag} {io : Io} {Rv : Hp} {ρ ρ0 : Env} {F F0 : Hp} {σ : L2.St} {H H0 : Hp} {vs : List Nat}
theorem Rel.wiped (r : Rel K io Rv ρ F σ H) (h : plainAt ρ vs = true) : Rel K io Rv (wipeE ρ vs) F (wipe σ vs) H := by
  have same : ∀ {i c}, (wipeE ρ vs)[i]? = some c → c.held.isSome = true ∨ (∃ d, c = .fro d) → i ∉ vs ∧ ρ[i]? = some c := fun {i c} e q => by
    rw [wipeE_get] at e
    by_cases hi : i ∈ vs
    · rw [if_pos hi] at e
      cases e2 : ρ[i]? with
      | none => rw [e2] at e; cases e
      | some c' => rw [e2] at e; cases e; rcases q with q | ⟨d, q⟩ <;> cases q
    · rw [if_neg hi] at e; exact ⟨hi, e⟩
  have slot : ∀ {i}, i ∉ vs → (wipe σ vs)[i]? = σ[i]? := fun {i} hi => by rw [wipe_get, if_neg hi]
  refine ⟨r.fH, r.rH, r.dj, by rw [wipeE_len, wipe_length]; exact r.len, fun i c v e1 e2 => ?_, fun i j ci cj di dj p e1 e2 h1 h2 s1 s2 => ?_, fun ip hip => ?_, fun i d e => ?_, r.tab⟩
  · cases c with
    | no => trivial
    | _ =>
      obtain ⟨n, e⟩ := same e1 (by first | exact .inl rfl | exact .inr ⟨_, rfl⟩)
      rw [slot n] at e2
      exact r.cell i _ v e e2
  · obtain ⟨n1, g1⟩ := same e1 (.inl (by rw [h1]; rfl))
    obtain ⟨n2, g2⟩ := same e2 (.inl (by rw [h2]; rfl))
    rw [slot n1] at s1
    rw [slot n2] at s2
    exact r.inj i j ci cj di dj p g1 g2 h1 h2 s1 s2
  · obtain ⟨⟨d, e1⟩, e2⟩ := r.ios ip hip
    have n : ip.1 ∉ vs := fun hv => by rcases plain_at h hv e1 with z | ⟨_, z⟩ <;> cases z
    exact ⟨⟨d, by rw [wipeE_get, if_neg n]; exact e1⟩, by rw [slot n]; exact e2⟩
  · obtain ⟨n, e⟩ := same e (.inl rfl)
    exact r.ioc i d e
theorem Rel.back (r0 : Rel K io Rv ρ0 F0 σ H0) (r : Rel K io Rv ρ F (wipe σ vs) H) (le : FLe F0 F) (h : plainAt ρ0 vs = true) : Rel K io Rv (backE ρ0 ρ vs) F σ H := by
  have hl : ρ0.length = ρ.length := by rw [r0.len, r.len, wipe_length]
  have slot : ∀ {i}, i ∉ vs → (wipe σ vs)[i]? = σ[i]? := fun {i} hi => by rw [wipe_get, if_neg hi]
  have held : ∀ {i c}, (backE ρ0 ρ vs)[i]? = some c → c.held.isSome = true → i ∉ vs ∧ ρ[i]? = some c := fun {i c} e q => by
    rw [(backE_get hl vs).2] at e
    by_cases hi : i ∈ vs
    · rw [if_pos hi] at e
      rcases plain_at h hi e with z | ⟨_, z⟩ <;> (subst z; cases q)
    · rw [if_neg hi] at e; exact ⟨hi, e⟩
  refine ⟨r.fH, r.rH, r.dj, by rw [(backE_get (i := 0) hl vs).1, r.len, wipe_length], fun i c v e1 e2 => ?_, fun i j ci cj di dj p e1 e2 h1 h2 s1 s2 => ?_, fun ip hip => ?_, fun i d e => ?_, r.tab⟩
  · rw [(backE_get hl vs).2] at e1
    by_cases hi : i ∈ vs
    · rw [if_pos hi] at e1
      have q := r0.cell i c v e1 e2
      rcases plain_at h hi e1 with z | ⟨d, z⟩
      · subst z; trivial
      · subst z; obtain ⟨x, e, q⟩ := q; exact ⟨x, e, q.mono le⟩
    · rw [if_neg hi] at e1
      exact r.cell i c v e1 (by rw [slot hi]; exact e2)
  · obtain ⟨n1, g1⟩ := held e1 (by rw [h1]; rfl)
    obtain ⟨n2, g2⟩ := held e2 (by rw [h2]; rfl)
    exact r.inj i j ci cj di dj p g1 g2 h1 h2 (by rw [slot n1]; exact s1) (by rw [slot n2]; exact s2)
  · obtain ⟨⟨d, e1⟩, e2⟩ := r0.ios ip hip
    have n : ip.1 ∉ vs := fun hv => by rcases plain_at h hv e1 with z | ⟨_, z⟩ <;> cases z
    obtain ⟨⟨d', e3⟩, _⟩ := r.ios ip hip
    exact ⟨⟨d', by rw [(backE_get hl vs).2, if_neg n]; exact e3⟩, e2⟩
  · obtain ⟨n, e⟩ := held e rfl
    exact r.ioc i d e
/-- a new object that is kept -/
theorem Rel.resAdd (r : Rel K io Rv ρ F σ H) {D : Addr} (n : H D = none) (o : HO) : Rel K io (upd Rv D o) ρ F σ (upd H D o) := by
  have r2 := r.newH n o
  refine ⟨r2.fH, fun a u e => ?_, fun a u e => ?_, r2.len, fun i c v e1 e2 => ?_, r2.inj, r2.ios, r2.ioc, fun t ht => let q := r2.tab t ht; let ⟨ps, ep⟩ := (r.tab t ht).tbl; q.mv q.1 (by rw [upd_ne (ne_of_none ep n)]; exact q.2.1) (fun _ e => e) (FLe.refl F)⟩
  · by_cases z : a = D
    · subst z; rw [upd_same] at e ⊢; exact e
    · rw [upd_ne z] at e ⊢; exact r.rH a u e
  · rw [upd_ne (fun z => by subst z; rw [r.fH.noneOf n] at e; cases e)]
    exact r.dj a u e
  · have q := r2.cell i c v e1 e2
    have own : ∀ {p d}, v = some (.ref p) → OwnAt K F Rv (upd H D o) p d → c.held = some d → OwnAt K F (upd Rv D o) (upd H D o) p d := fun {p d} hv w hh => by
      refine ⟨w.nF, ?_, w.at_⟩
      rw [upd_ne]
      · exact w.nR
      · intro z
        subst z
        subst hv
        obtain ⟨p', e3, w'⟩ := r.heldAt e1 hh
        rw [e2] at e3
        cases e3
        obtain ⟨o', e4, _⟩ := w'.at_
        rw [n] at e4
        cases e4
    cases c with
    | no => trivial
    | fro d => exact q
    | own d => obtain ⟨p, e, q⟩ := q; exact ⟨p, e, own e q rfl⟩
    | io d => obtain ⟨p, e, q⟩ := q; exact ⟨p, e, own e q rfl⟩
theorem Rel.resPut {D : Addr} {o o' : HO} (r : Rel K io (upd Rv D o) ρ F σ H) : Rel K io (upd Rv D o') ρ F σ (upd H D o') := by
  have nF : ∀ a u, F a = some u → a ≠ D := fun a u e z => by subst z; have q := r.dj a u e; rw [upd_same] at q; cases q
  refine ⟨fun a u e => by rw [upd_ne (nF a u e)]; exact r.fH a u e, fun a u e => ?_, fun a u e => ?_, r.len, fun i c v e1 e2 => ?_, r.inj, r.ios, r.ioc, fun t ht => let q := r.tab t ht; have ne : t.1 ≠ D := (fun z => by have w := q.2.1; rw [z, upd_same] at w; cases w); q.mv q.1 (by have w := q.2.1; rw [upd_ne ne] at w; rw [upd_ne ne]; exact w) (fun _ e => by rw [upd_ne ne]; exact e) (FLe.refl F)⟩
  · by_cases z : a = D
    · subst z; rw [upd_same] at e ⊢; exact e
    · rw [upd_ne z] at e ⊢; exact r.rH a u (by rw [upd_ne z]; exact e)
  · have q := r.dj a u e
    rw [upd_ne (nF a u e)] at q ⊢
    exact q
  · have q := r.cell i c v e1 e2
    have own : ∀ {p d}, OwnAt K F (upd Rv D o) H p d → OwnAt K F (upd Rv D o') (upd H D o') p d := fun {p d} w => by
      have ne : p ≠ D := fun z => by subst z; have q := w.nR; rw [upd_same] at q; cases q
      obtain ⟨ob, e, w3⟩ := w.at_
      exact ⟨w.nF, by rw [upd_ne ne]; have q := w.nR; rw [upd_ne ne] at q; exact q, ob, by rw [upd_ne ne]; exact e, w3⟩
    cases c with
    | no => trivial
    | fro d => exact q
    | own d => obtain ⟨p, e, q⟩ := q; exact ⟨p, e, own q⟩
    | io d => obtain ⟨p, e, q⟩ := q; exact ⟨p, e, own q⟩
theorem Rel.resDrop {D : Addr} {o : HO} (r : Rel K io (upd Rv D o) ρ F σ H) (n : Rv D = none) : Rel K io Rv ρ F σ H ∧ F D = none ∧ H D = some o ∧ Loose ρ σ D := by
  have sub : ∀ a u, Rv a = some u → a ≠ D := fun a u e z => by subst z; rw [n] at e; cases e
  have own : ∀ {p d}, OwnAt K F (upd Rv D o) H p d → p ≠ D ∧ OwnAt K F Rv H p d := fun {p d} w => by
    have ne : p ≠ D := fun z => by subst z; have q := w.nR; rw [upd_same] at q; cases q
    exact ⟨ne, w.nF, by have q := w.nR; rw [upd_ne ne] at q; exact q, w.at_⟩
  refine ⟨⟨r.fH, fun a u e => r.rH a u (by rw [upd_ne (sub a u e)]; exact e), fun a u e => ?_, r.len, fun i c v e1 e2 => ?_, r.inj, r.ios, r.ioc, fun t ht => let q := r.tab t ht; have ne : t.1 ≠ D := (fun z => by have w := q.2.1; rw [z, upd_same] at w; cases w); q.mv q.1 (by have w := q.2.1; rw [upd_ne ne] at w; exact w) (fun _ e => e) (FLe.refl F)⟩, ?_, r.rH D o upd_same, fun i c d e1 e2 e3 => ?_⟩
  · have q := r.dj a u e
    cases e2 : Rv a with
    | none => rfl
    | some w => rw [upd_ne (sub a w e2), e2] at q; cases q
  · have q := r.cell i c v e1 e2
    cases c with
    | no => trivial
    | fro d => exact q
    | own d => obtain ⟨p, e, q⟩ := q; exact ⟨p, e, (own q).2⟩
    | io d => obtain ⟨p, e, q⟩ := q; exact ⟨p, e, (own q).2⟩
  · cases e : F D with
    | none => rfl
    | some u => have q := r.dj D u e; rw [upd_same] at q; cases q
  · obtain ⟨p, e4, w⟩ := r.heldAt e1 e2
    rw [e3] at e4
    cases e4
    exact (own w).1 rfl
end
end
end Dt

set_option Elab.async false
set_option linter.all false
set_option maxRecDepth 100000
set_option maxHeartbeats 2000000
/-! The judgements' rules: comprehensions, statements, loops, calls, defs. -/
namespace Dt
open PySem PySem.Spec PyProof.Rows L2

theorem drop_at {α : Type} {l : List α} {i : Nat} (h : i < l.length) : ∃ x, l[i]? = some x ∧ l.drop i = x :: l.drop (i + 1) := ⟨l[i], by simp [h], List.drop_eq_getElem_cons h⟩
section
variable {ex : String → Addr} {X : Cx} {W : WX} {a b c e tg : Expr} {es : List Expr} {pos p : Pos} {sa sb sc : SO} {ea eb : SE} {sB : SB} {sA : SA} {x : Str} {id : String}

theorem comp_core {G : Gx} {σ : L2.St} {H : Hp} {Q : VK} {it : SA} {g : SG} {t : ST} {s : SE} {js vs : List Nat} (hjs : js.all (fun j => vs.contains j) = true) (h : tF G W (sComp vs it g t s) σ H Q) :
    tLc (tI G W it) (tG G W0 js g) (tT G W0 t) (tE G W0 s) vs σ H Q := by
    obtain ⟨ρ, F, Rv, io, rel, q⟩ := h
    refine ⟨ρ, F, Rv, io, rel, ?_⟩
    unfold sComp at q
    cases e : it ρ with
    | stuck => rw [e] at q; exact q.elim
    | exc x ρ' => rw [e] at q; exact q
    | ok ds ρ1 =>
      rw [e, R.bind_ok] at q
      intro J H1 F1 le1 rel1 J1 Dl hD
      by_cases hp : plainAt ρ1 vs = true ∧ ds.length ≤ sizeLine
      case neg => rw [if_neg hp] at q; exact q.elim
      rw [if_pos hp] at q
      obtain ⟨hpl, hz⟩ := hp
      cases e2 : compGo vs g t s ds (wipeE ρ1 vs) with
      | stuck => rw [e2] at q; exact q.elim
      | exc x ρ' => rw [e2] at q; exact q.elim
      | ok zs ρe =>
        rw [e2] at q
        have nR : Rv Dl = none := rel1.rH.noneOf hD
        refine ⟨fun i m H => m = ds.length - i ∧ i ≤ ds.length ∧ ∃ (ρi : Env) (Fi : Hp) (acc : List V) (dn rest : List D), FLe F1 Fi ∧ Rel G.K io (upd Rv Dl (.lst acc)) ρi Fi (wipe σ vs) H ∧ acc.length ≤ i ∧ Rps G.K Fi acc dn ∧
          compGo vs g t s (ds.drop i) ρi = .ok rest ρe ∧ dn ++ rest = zs, ⟨ds.length, rfl.trans (Nat.sub_zero _).symm, Nat.zero_le _, wipeE ρ1 vs, F1, [], [], zs, FLe.refl _, (rel1.wiped hpl).resAdd hD _, Nat.le_refl _, .nil, e2, rfl⟩, ?_⟩
        rintro i m H ⟨rfl, hi, ρi, Fi, acc, dn, rest, lei, reli, hacc, racc, hgo, hzs⟩
        by_cases hlt : i < ds.length
        · obtain ⟨d, hd, hdr⟩ := drop_at hlt
          rw [hdr] at hgo
          unfold compGo at hgo
          refine .inr ⟨J1.go i Fi H lei reli.fH hlt, fun H' => ∃ (ρ2 : Env) (F2 : Hp) (acc2 : List V) (dn2 rest2 : List D), FLe F1 F2 ∧ Rel G.K io (upd Rv Dl (.lst acc2)) ρ2 F2 (wipe σ vs) H' ∧ acc2.length ≤ i + 1 ∧ Rps G.K F2 acc2 dn2 ∧
              compGo vs g t s (ds.drop (i + 1)) ρ2 = .ok rest2 ρe ∧ dn2 ++ rest2 = zs, fun H' z => ⟨ds.length - (i + 1), by omega, rfl, hlt, z⟩, fun xv H' y => ?_⟩
          obtain ⟨F2, nw, rp⟩ := J1.yld i Fi H H' xv d lei reli.fH hd y
          have rel2 := reli.after nw
          refine ⟨d, ρi, F2, _, io, rel2, rp, ?_⟩
          cases e3 : g d ρi with
          | stuck => rw [e3] at hgo; cases hgo
          | exc x ρ' => rw [e3] at hgo; cases hgo
          | ok u ρ3 =>
            rw [e3, R.bind_ok] at hgo
            intro σ3 H3 F3 le3 rel3 hj3
            have hjs' : ∀ j, j ∉ vs → σ3[j]? = (wipe σ vs)[j]? := fun j hj => hj3.2 j fun z => hj (by
              have w := List.all_eq_true.mp hjs j z
              simpa using w)
            have hl3 : σ3.length = σ.length := hj3.1.trans (wipe_length σ vs)
            have hw := wipe_same hl3 hjs'
            refine ⟨hw, ρ3, F3, _, io, rel3, ?_⟩
            cases e4 : t ρ3 with
            | stuck => rw [e4] at hgo; cases hgo
            | exc x ρ' => rw [e4] at hgo; cases hgo
            | ok k ρ4 =>
              rw [e4, R.bind_ok] at hgo
              intro H4 F4 le4 rel4
              cases k with
              | false =>
                refine iteF ?_
                have hgo : (if plainAt ρ4 vs = true then compGo vs g t s (ds.drop (i + 1)) (wipeE ρ4 vs) else .stuck) = R.ok rest ρe := hgo
                by_cases hp4 : plainAt ρ4 vs = true
                · rw [if_pos hp4] at hgo
                  have le := (nw.f.trans le3).trans le4
                  refine ⟨wipeE ρ4 vs, F4, acc, dn, rest, lei.trans le, ?_, Nat.le_succ_of_le hacc, racc.mono le, hgo, hzs⟩
                  have r := rel4.wiped hp4
                  rw [hw] at r
                  exact r
                · rw [if_neg hp4] at hgo; cases hgo
              | true =>
                refine iteT ⟨ρ4, F4, _, io, rel4, ?_⟩
                have hgo : ((s ρ4).bind fun z ρ3 => if plainAt ρ3 vs = true then (compGo vs g t s (ds.drop (i + 1)) (wipeE ρ3 vs)).bind fun zs ρ4 => .ok (z :: zs) ρ4 else .stuck) = R.ok rest ρe := hgo
                cases e5 : s ρ4 with
                | stuck => rw [e5] at hgo; cases hgo
                | exc x ρ' => rw [e5] at hgo; cases hgo
                | ok z ρ5 =>
                  rw [e5, R.bind_ok] at hgo
                  intro yv H5 F5 le5 rel5 rp5
                  by_cases hp5 : plainAt ρ5 vs = true
                  · rw [if_pos hp5] at hgo
                    cases e6 : compGo vs g t s (ds.drop (i + 1)) (wipeE ρ5 vs) with
                    | stuck => rw [e6] at hgo; cases hgo
                    | exc x ρ' => rw [e6] at hgo; cases hgo
                    | ok rest' ρ6 =>
                      rw [e6, R.bind_ok] at hgo
                      have eq1 : z :: rest' = rest ∧ ρ6 = ρe := by cases hgo; exact ⟨rfl, rfl⟩
                      obtain ⟨rfl, rfl⟩ := eq1
                      have le := ((nw.f.trans le3).trans le4).trans le5
                      refine ⟨acc, rel5.rH Dl _ upd_same, Nat.lt_of_le_of_lt hacc (Nat.lt_of_lt_of_le hlt hz), wipeE ρ5 vs, F5, acc ++ [yv], dn ++ [z], rest', lei.trans le, ?_, by rw [List.length_append]; simpa using hacc, (racc.mono le).append (.cons rp5 .nil), e6, by simp [← hzs]⟩
                      have r := rel5.wiped hp5
                      rw [hw] at r
                      exact r.resPut
                  · rw [if_neg hp5] at hgo; cases hgo
        · have hi2 : i = ds.length := by omega
          subst hi2
          rw [List.drop_eq_nil_of_le (Nat.le_refl _)] at hgo
          unfold compGo at hgo
          cases hgo
          refine .inl ⟨J1.stop Fi H lei reli.fH, ?_⟩
          obtain ⟨relD, n1, n2, lo⟩ := reli.resDrop nR
          have relB := rel1.back (vs := vs) relD lei hpl
          refine q Dl H Fi (le1.trans lei) relB ⟨n1, nR, _, n2, acc, rfl, ?_⟩ fun i c d e1 e2 e3 => ?_
          · rw [List.append_nil] at hzs
            subst hzs
            exact racc
          · have hlen : ρ1.length = ρe.length := by rw [rel1.len, relD.len, wipe_length]
            rw [(backE_get hlen vs).2] at e1
            by_cases hi : i ∈ vs
            · rw [if_pos hi] at e1
              rcases plain_at hpl hi e1 with z | ⟨_, z⟩ <;> (subst z; cases e2)
            · rw [if_neg hi] at e1
              exact lo i c d e1 e2 (by rw [wipe_get, if_neg hi]; exact e3)
theorem d_compF {elt iter : Expr} {ifs : List Expr} {scope : Scope} {own : List (Str × Nat)} {it : SA} {g : SG} {t : ST} {s : SE} {js : List Nat} (hu : At X W) (hi : DI (GK X ex) X W tg iter it) (ok : BlkOk X.N X.env.scope scope own)
    (hg : ∀ (s : Shared) (H : Hp) (C : Addr) (cl : List (Str × Addr)) (fp : List Addr), DG (GK X ex) (X.blk s H scope (compEnvC scope cl C X.env) fp) W0 js tg g)
    (ht : ∀ (s : Shared) (H : Hp) (C : Addr) (cl : List (Str × Addr)) (fp : List Addr), PTs (X.blk s H scope (compEnvC scope cl C X.env) fp) ifs (tT (GK X ex) W0 t))
    (he : ∀ (s' : Shared) (H : Hp) (C : Addr) (cl : List (Str × Addr)) (fp : List Addr), DE (GK X ex) (X.blk s' H scope (compEnvC scope cl C X.env) fp) W0 elt s) (hjs : js.all (fun j => (own.map (·.2)).contains j) = true) (hs : ∀ x, foldedSetIterable iter X.env x = pure x := by intro _; rfl) :
    DF (GK X ex) X W (.ListComp elt [⟨tg, iter, ifs, 0⟩] scope pos) (sComp (own.map (·.2)) it g t s) :=
  wkE (pe_lc hu.calm hu.nd hi ok hg ht he hs) fun σ H Q h => comp_core hjs h

/-! ### statements -/
def sAsg (g : SG) (s : SE) : SS := fun ρ => (s ρ).bind fun d ρ' => (g d ρ').bind fun _ ρ'' => .ok .nx ρ''
theorem asg_core {G : Gx} {σ : L2.St} {H : Hp} {D : Ends} {g : SG} {s : SE} {js : List Nat} (h : tS G W (sAsg g s) D σ H) : tE G W s σ H fun v H1 => tG G W js g v σ H1 D.nx := by
  obtain ⟨ρ, F, Rv, io, rel, q⟩ := h
  refine ⟨ρ, F, Rv, io, rel, ?_⟩
  unfold sAsg at q
  cases e : s ρ with
  | stuck => rw [e] at q; exact q.elim
  | exc x ρ' => rw [e] at q; exact q
  | ok d ρ' =>
    rw [e, R.bind_ok] at q
    intro v H' F' le rel' rp
    refine ⟨d, ρ', F', Rv, io, rel', rp, ?_⟩
    cases e2 : g d ρ' with
    | stuck => rw [e2] at q; exact q.elim
    | exc x ρ'' => rw [e2] at q; exact XPost.le q le
    | ok u ρ'' => rw [e2] at q; exact fun σ' H2 F2 le2 rel2 _ => q σ' H2 F2 (le.trans le2) rel2
theorem d_asg {g : SG} {js : List Nat} (he : DE (GK X ex) X W e ea) (hg : DG (GK X ex) X W js tg g) (hs : swapsWithSole [tg] e pos.line X.env = pure false := by rfl) (hw : swappedStores [tg] e X.env = pure none := by rfl)
    (h1 : (assignEach [tg] X.env).map (·.2) = [assign tg X.env] := by rfl) : DS (GK X ex) X W (.Assign [tg] e pos) (sAsg g ea) := wkS (ps_asg he hg hs hw h1) fun D σ H h => asg_core h
theorem d_set {i : Nat} {pos' : Pos} (hu : At X W) (hi : X.N[i]? = some x) (hx : Loc X.env.scope x) (he : DE (GK X ex) X W e ea) (hs : swapsWith e (some (.Name x pos')) pos.line X.env = pure false := by rfl) (hf : X.fn x = true ∨ X.env.scope.names.lookup x = some .local := by first | exact .inl rfl | exact .inr rfl | assumption) :
    DS (GK X ex) X W (.Assign [.Name x pos'] e pos) (sAsg (gSet i) ea) := wkS (ps_set hu.nd hi hx he hs hf) fun D σ H h => tE_mono (asg_core (js := [i]) h) fun v H1 z => by
      obtain ⟨d, ρ, F, Rv, io, rel, rp, q⟩ := z
      show D.nx (σ.set i (some v)) H1
      cases e2 : gSet i d ρ with
      | stuck => rw [e2] at q; exact q.elim
      | exc x ρ'' => unfold gSet at e2; split at e2 <;> cases e2
      | ok u ρ'' =>
        rw [e2] at q
        obtain ⟨h1, rfl⟩ := gSet_ok e2
        exact q _ H1 F (FLe.refl F) (rel.setFro rp h1) ⟨List.length_set, fun j hj => List.getElem?_set_ne fun z => hj (by simp [z])⟩
/-- a new object becomes the variable's own -/
def gOwn (i : Nat) : SG := fun d ρ => match ρ[i]? with
  | some (.io _) => .stuck
  | none => .stuck
  | _ => .ok () (ρ.set i (.own d))
theorem gOwn_ok {ρ ρ' : Env} {i : Nat} {d : D} {u : Unit} (h : gOwn i d ρ = .ok u ρ') : (∀ e, ρ[i]? ≠ some (Cell.io e)) ∧ ρ' = ρ.set i (.own d) := by
  unfold gOwn at h
  split at h
  · cases h
  · cases h
  · rename_i h1 h2
    cases h
    exact ⟨fun e z => h1 e z, rfl⟩
theorem own_core {G : Gx} {σ : L2.St} {H : Hp} {D : Ends} {i : Nat} {s : SE} (h : tS G W (sAsg (gOwn i) s) D σ H) : tF G W s σ H fun v H1 => D.nx (σ.set i (some v)) H1 := by
  obtain ⟨ρ, F, Rv, io, rel, q⟩ := h
  refine ⟨ρ, F, Rv, io, rel, ?_⟩
  unfold sAsg at q
  cases e : s ρ with
  | stuck => rw [e] at q; exact q.elim
  | exc x ρ' => rw [e] at q; exact q
  | ok d ρ' =>
    rw [e, R.bind_ok] at q
    intro v H' F' le rel' ow lo
    cases e2 : gOwn i d ρ' with
    | stuck => rw [e2] at q; exact q.elim
    | exc x ρ'' => unfold gOwn at e2; split at e2 <;> cases e2
    | ok u ρ'' =>
      rw [e2] at q
      obtain ⟨h1, rfl⟩ := gOwn_ok e2
      exact q _ H' F' le (rel'.setOwn ow lo h1)
theorem d_setF {i : Nat} {pos' : Pos} (hu : At X W) (hi : X.N[i]? = some x) (hx : Loc X.env.scope x) (he : DF (GK X ex) X W e ea) (hs : swapsWith e (some (.Name x pos')) pos.line X.env = pure false := by rfl) (hf : X.fn x = true ∨ X.env.scope.names.lookup x = some .local := by first | exact .inl rfl | exact .inr rfl | assumption) :
    DS (GK X ex) X W (.Assign [.Name x pos'] e pos) (sAsg (gOwn i) ea) := wkS (ps_set hu.nd hi hx he hs hf) fun D σ H h => own_core h
/-- x = [..] on one line -/
theorem d_setComp {i : Nat} {pos' : Pos} {elt iter : Expr} {ifs : List Expr} {scope : Scope} {own : List (Str × Nat)} {it : SA} {g : SG} {t : ST} {s : SE} {js : List Nat} {cpos : Pos} (hu : At X W) (hy : X.N[i]? = some x) (hyl : X.env.scope.names.lookup x = some .local)
    (hsw : swapsWith (.ListComp elt [⟨tg, iter, ifs, 0⟩] scope cpos) (some (.Name x pos')) pos.line X.env = pure true) (hi : DI (GK X ex) X W tg iter it) (ok : BlkOk X.N X.env.scope scope own)
    (hg : ∀ (s : Shared) (H : Hp) (C : Addr) (cl : List (Str × Addr)) (fp : List Addr), DG (GK X ex) (X.blk s H scope (compEnvC scope cl C X.env) fp) W0 js tg g)
    (ht : ∀ (s : Shared) (H : Hp) (C : Addr) (cl : List (Str × Addr)) (fp : List Addr), PTs (X.blk s H scope (compEnvC scope cl C X.env) fp) ifs (tT (GK X ex) W0 t))
    (he : ∀ (s' : Shared) (H : Hp) (C : Addr) (cl : List (Str × Addr)) (fp : List Addr), DE (GK X ex) (X.blk s' H scope (compEnvC scope cl C X.env) fp) W0 elt s) (hjs : js.all (fun j => (own.map (·.2)).contains j) = true) (hs : ∀ x, foldedSetIterable iter X.env x = pure x := by intro _; rfl) :
    DS (GK X ex) X W (.Assign [.Name x pos'] (.ListComp elt [⟨tg, iter, ifs, 0⟩] scope cpos) pos) (sAsg (gOwn i) (sComp (own.map (·.2)) it g t s)) :=
  wkS (ps_setLc hu.calm hu.nd hy hyl hsw hi ok hg ht he hs) fun D σ H h => comp_core hjs (own_core h)
def sExpr (s : SE) : SS := fun ρ => (s ρ).bind fun _ ρ' => .ok .nx ρ'
theorem d_expr (he : DE (GK X ex) X W e ea) (hs : swapsWith e none pos.line X.env = pure false := by rfl) : DS (GK X ex) X W (.Expr e pos) (sExpr ea) := wkS (ps_expr he hs) fun D σ H ⟨ρ, F, Rv, io, rel, q⟩ => by
  refine ⟨ρ, F, Rv, io, rel, ?_⟩
  unfold sExpr at q
  cases e : ea ρ with
  | stuck => rw [e] at q; exact q.elim
  | exc x ρ' => rw [e] at q; exact q
  | ok d ρ' => rw [e] at q; exact fun v H' F' le rel' _ => q σ H' F' le rel'
def sRet (s : SE) : SS := fun ρ => (s ρ).bind fun d ρ' => .ok (.rt d) ρ'
theorem d_ret (he : DE (GK X ex) X W e ea) : DS (GK X ex) X W (.Return (some e) pos) (sRet ea) := wkS (ps_ret he) fun D σ H ⟨ρ, F, Rv, io, rel, q⟩ => by
  refine ⟨ρ, F, Rv, io, rel, ?_⟩
  unfold sRet at q
  cases e : ea ρ with
  | stuck => rw [e] at q; exact q.elim
  | exc x ρ' => rw [e] at q; exact q
  | ok d ρ' => rw [e] at q; exact fun v H' F' le rel' rp => q v σ H' F' le rel' rp
def sNx : SS := fun ρ => .ok .nx ρ
theorem d_pass : DS (GK X ex) X W (.Pass pos) sNx := wkS ps_pass fun D σ H ⟨ρ, F, Rv, io, rel, q⟩ => q σ H F (FLe.refl F) rel
theorem d_doc {x j pos pos'} : DS (GK X ex) X W (.Expr (.Constant (.str x) j pos) pos') sNx := wkS ps_doc fun D σ H ⟨ρ, F, Rv, io, rel, q⟩ => q σ H F (FLe.refl F) rel
def sSeq (a b : SS) : SS := fun ρ => (a ρ).bind fun f ρ' => match f with
  | .nx => b ρ'
  | f => .ok f ρ'
theorem SPost.le {G : Gx} {io : Io} {Rv F F1 : Hp} {r : R Fl} {D : Ends} (h : SPost G W io Rv F r D) (le : FLe F F1) : SPost G W io Rv F1 r D := by
  cases r with
  | stuck => exact h
  | exc x ρ' => exact XPost.le h le
  | ok f ρ' =>
    cases f with
    | nx => exact fun σ' H' F' l => h σ' H' F' (le.trans l)
    | bk => exact fun σ' H' F' l => h σ' H' F' (le.trans l)
    | ct => exact fun σ' H' F' l => h σ' H' F' (le.trans l)
    | rt d => exact fun v σ' H' F' l => h v σ' H' F' (le.trans l)
theorem d_snil : DSs (GK X ex) X W [] sNx := wkSs pss_nil fun D σ H ⟨ρ, F, Rv, io, rel, q⟩ => q σ H F (FLe.refl F) rel
theorem d_sone {st : Stmt} {s : SS} (h : DS (GK X ex) X W st s) : DSs (GK X ex) X W [st] s := pss_one h
theorem d_scons {st : Stmt} {rest : List Stmt} {s t : SS} (h : DS (GK X ex) X W st s) (h2 : DSs (GK X ex) X W rest t) : DSs (GK X ex) X W (st :: rest) (sSeq s t) := wkSs (pss_cons h h2) fun D σ H ⟨ρ, F, Rv, io, rel, q⟩ => by
  refine ⟨ρ, F, Rv, io, rel, ?_⟩
  unfold sSeq at q
  cases e : s ρ with
  | stuck => rw [e] at q; exact q.elim
  | exc x ρ' => rw [e] at q; exact q
  | ok f ρ' =>
    rw [e, R.bind_ok] at q
    cases f with
    | nx => exact fun σ' H' F' le rel' => ⟨ρ', F', Rv, io, rel', SPost.le q le⟩
    | bk => exact q
    | ct => exact q
    | rt d => exact q
def sIfS (t : ST) (a b : SS) : SS := fun ρ => (t ρ).bind fun k ρ' => match k with
  | true => a ρ'
  | false => b ρ'
theorem d_ifS {t : ST} {l r : List Stmt} {s u : SS} (hc : DT (GK X ex) X W c t) (h : DSs (GK X ex) X W l s) (h2 : DSs (GK X ex) X W r u) : DS (GK X ex) X W (.If c l r pos) (sIfS t s u) := wkS (ps_if hc h h2) fun D σ H ⟨ρ, F, Rv, io, rel, q⟩ => by
  refine ⟨ρ, F, Rv, io, rel, ?_⟩
  unfold sIfS at q
  cases e : t ρ with
  | stuck => rw [e] at q; exact q.elim
  | exc x ρ' => rw [e] at q; exact q
  | ok k ρ' =>
    rw [e, R.bind_ok] at q
    intro H' F' le rel'
    cases k with
    | true => exact iteT ⟨ρ', F', Rv, io, rel', SPost.le q le⟩
    | false => exact iteF ⟨ρ', F', Rv, io, rel', SPost.le q le⟩
/-- for .. in ..: one turn after another -/
def forGo (g : SG) (s : SS) : List D → SS
  | [], ρ => .ok .nx ρ
  | d :: ds, ρ => (g d ρ).bind fun _ ρ1 => (s ρ1).bind fun f ρ2 => match f with
    | .nx => forGo g s ds ρ2
    | .ct => forGo g s ds ρ2
    | .bk => .ok .nx ρ2
    | .rt d => .ok (.rt d) ρ2
def sFor (it : SA) (g : SG) (s : SS) : SS := fun ρ => (it ρ).bind fun ds ρ' => forGo g s ds ρ'
theorem d_for {iter : Expr} {body : List Stmt} {it : SA} {g : SG} {s : SS} {js : List Nat} (hu : At X W) (hp : PassesOwn (model X.prog X.w) X.A X.env X.xe) (hi : DI (GK X ex) X W tg iter it) (hg : DG (GK X ex) X W js tg g) (hb : DSs (GK X ex) X W body s)
    (hs : ∀ x, foldedSetIterable iter X.env x = pure x := by intro _; rfl) : DS (GK X ex) X W (.For tg iter body [] pos) (sFor it g s) := wkS (ps_for hp hu.calm hi hg hb hs) fun D σ H ⟨ρ, F, Rv, io, rel, q⟩ => by
  refine ⟨ρ, F, Rv, io, rel, ?_⟩
  unfold sFor at q
  cases e : it ρ with
  | stuck => rw [e] at q; exact q.elim
  | exc x ρ' => rw [e] at q; exact q
  | ok ds ρ1 =>
    rw [e, R.bind_ok] at q
    intro J H1 F1 le1 rel1 J1
    refine ⟨fun i m σ H => m = ds.length - i ∧ i ≤ ds.length ∧ ∃ (ρi : Env) (Fi : Hp), FLe F1 Fi ∧ Rel X.K io Rv ρi Fi σ H ∧ SPost (GK X ex) W io Rv Fi (forGo g s (ds.drop i) ρi) D, ⟨ds.length, rfl.trans (Nat.sub_zero _).symm, Nat.zero_le _, ρ1, F1, FLe.refl _, rel1, SPost.le q le1⟩, ?_⟩
    rintro i m σ H ⟨rfl, hi, ρi, Fi, lei, reli, qi⟩
    by_cases hlt : i < ds.length
    · obtain ⟨d, hd, hdr⟩ := drop_at hlt
      rw [hdr] at qi
      unfold forGo at qi
      refine .inr ⟨J1.go i Fi H lei reli.fH hlt, fun σ H => ∃ (ρi : Env) (Fi : Hp), FLe F1 Fi ∧ Rel X.K io Rv ρi Fi σ H ∧ SPost (GK X ex) W io Rv Fi (forGo g s (ds.drop (i + 1)) ρi) D, fun σ' H' z => ⟨ds.length - (i + 1), by omega, rfl, hlt, z⟩, fun xv H' y => ?_⟩
      obtain ⟨F2, nw, rp⟩ := J1.yld i Fi H H' xv d lei reli.fH hd y
      refine ⟨d, ρi, F2, Rv, io, reli.after nw, rp, ?_⟩
      cases e3 : g d ρi with
      | stuck => rw [e3] at qi; exact qi.elim
      | exc x ρ' => rw [e3] at qi; exact XPost.le qi nw.f
      | ok u ρ3 =>
        rw [e3, R.bind_ok] at qi
        intro σ3 H3 F3 le3 rel3 _
        refine ⟨ρ3, F3, Rv, io, rel3, ?_⟩
        cases e4 : s ρ3 with
        | stuck => rw [e4] at qi; exact qi.elim
        | exc x ρ' => rw [e4] at qi; exact XPost.le qi (nw.f.trans le3)
        | ok f ρ4 =>
          rw [e4, R.bind_ok] at qi
          have le := nw.f.trans le3
          cases f with
          | nx => exact fun σ4 H4 F4 le4 rel4 => ⟨ρ4, F4, lei.trans (le.trans le4), rel4, SPost.le qi (le.trans le4)⟩
          | ct => exact fun σ4 H4 F4 le4 rel4 => ⟨ρ4, F4, lei.trans (le.trans le4), rel4, SPost.le qi (le.trans le4)⟩
          | bk => exact fun σ4 H4 F4 le4 rel4 => qi σ4 H4 F4 (le.trans le4) rel4
          | rt d => exact fun v σ4 H4 F4 le4 rel4 => qi v σ4 H4 F4 (le.trans le4) rel4
    · have hi2 : i = ds.length := by omega
      subst hi2
      rw [List.drop_eq_nil_of_le (Nat.le_refl _)] at qi
      unfold forGo at qi
      exact .inl ⟨J1.stop Fi H lei reli.fH, qi σ H Fi (FLe.refl _) reli⟩
/-- while: at most so many turns -/
def sWhile (t : ST) (s : SS) : Nat → SS
  | 0, _ => .stuck
  | n + 1, ρ => (t ρ).bind fun k ρ1 => match k with
    | false => .ok .nx ρ1
    | true => (s ρ1).bind fun f ρ2 => match f with
      | .nx => sWhile t s n ρ2
      | .ct => sWhile t s n ρ2
      | .bk => .ok .nx ρ2
      | .rt d => .ok (.rt d) ρ2
theorem d_while {t : ST} {body : List Stmt} {s : SS} (n : Nat) (hp : PassesOwn (model X.prog X.w) X.A X.env X.xe) (hc : DT (GK X ex) X W c t) (hb : DSs (GK X ex) X W body s) : DS (GK X ex) X W (.While c body [] pos) (sWhile t s n) := wkS (ps_while hp hc hb) fun D σ H ⟨ρ, F, Rv, io, rel, q⟩ => by
  refine ⟨fun m σ H => ∃ (ρi : Env) (Fi : Hp), Rel X.K io Rv ρi Fi σ H ∧ SPost (GK X ex) W io Rv Fi (sWhile t s m ρi) D, ⟨n, ρ, F, rel, q⟩, ?_⟩
  rintro m σ H ⟨ρi, Fi, reli, qi⟩
  cases m with
  | zero => exact qi.elim
  | succ m =>
    unfold sWhile at qi
    refine ⟨ρi, Fi, Rv, io, reli, ?_⟩
    cases e : t ρi with
    | stuck => rw [e] at qi; exact qi.elim
    | exc x ρ' => rw [e] at qi; exact qi
    | ok k ρ1 =>
      rw [e, R.bind_ok] at qi
      intro H1 F1 le1 rel1
      cases k with
      | false => exact iteF (qi σ H1 F1 le1 rel1)
      | true =>
        refine iteT ⟨fun σ H => ∃ (ρi : Env) (Fi : Hp), Rel X.K io Rv ρi Fi σ H ∧ SPost (GK X ex) W io Rv Fi (sWhile t s m ρi) D, fun σ' H' z => ⟨m, Nat.lt_succ_self m, z⟩, ρ1, F1, Rv, io, rel1, ?_⟩
        have qi : SPost (GK X ex) W io Rv Fi ((s ρ1).bind fun f ρ2 => match f with
          | .nx => sWhile t s m ρ2
          | .ct => sWhile t s m ρ2
          | .bk => .ok .nx ρ2
          | .rt d => .ok (.rt d) ρ2) D := qi
        cases e4 : s ρ1 with
        | stuck => rw [e4] at qi; exact qi.elim
        | exc x ρ' => rw [e4] at qi; exact XPost.le qi le1
        | ok f ρ4 =>
          rw [e4, R.bind_ok] at qi
          cases f with
          | nx => exact fun σ4 H4 F4 le4 rel4 => ⟨ρ4, F4, rel4, SPost.le qi (le1.trans le4)⟩
          | ct => exact fun σ4 H4 F4 le4 rel4 => ⟨ρ4, F4, rel4, SPost.le qi (le1.trans le4)⟩
          | bk => exact fun σ4 H4 F4 le4 rel4 => qi σ4 H4 F4 (le1.trans le4) rel4
          | rt d => exact fun v σ4 H4 F4 le4 rel4 => qi v σ4 H4 F4 (le1.trans le4) rel4
end
end Dt

set_option Elab.async false
set_option linter.all false
set_option maxRecDepth 100000
set_option maxHeartbeats 2000000
/-! The judgements' rules: what a variable's own list or dict undergoes; calls; defs. -/
namespace Dt
open PySem PySem.Spec PyProof.Rows L2

section
variable {ex : String → Addr} {X : Cx} {W : WX} {a b c e o tg : Expr} {es : List Expr} {pos p : Pos} {sa sb sc : SO} {ea eb : SE} {sB : SB} {sA : SA} {x : Str} {id : String}

/-! ### x[k] = v -/
def dPut (ks : List Key) (ds : List D) (k : Key) (z : D) : List Key × List D :=
  if (ks.any fun k' => decide (k' = k)) = true then (ks, List.zipWith (fun k' d => if k' = k then z else d) ks ds) else (ks ++ [k], ds ++ [z])
theorem dPut_put {K : PySem.W.Frag} {F : Hp} {k : Key} {v : V} {z : D} (rv : Rp K F v z) {kvs : List (Key × V)} {ds : List D} (r : Rps K F (kvs.map (·.2)) ds) :
    ((putK kvs k v).map (·.1)) = (dPut (kvs.map (·.1)) ds k z).1 ∧ Rps K F ((putK kvs k v).map (·.2)) (dPut (kvs.map (·.1)) ds k z).2 := by
  unfold putK dPut
  rw [List.any_map]
  by_cases h : (kvs.any fun kv => decide (kv.1 = k)) = true
  · have h' : (kvs.any ((fun k' => decide (k' = k)) ∘ fun x => x.1)) = true := h
    rw [if_pos h, if_pos h']
    refine ⟨?_, ?_⟩
    · show List.map _ _ = List.map _ kvs
      rw [List.map_map]
      refine List.map_congr_left fun kv _ => ?_
      show (if kv.1 = k then (kv.1, v) else kv).1 = kv.1
      split <;> rfl
    · clear h h'
      induction kvs generalizing ds with
      | nil => cases r; exact .nil
      | cons kv kvs ih =>
        cases r with
        | cons r1 rr =>
          simp only [List.map_cons, List.zipWith_cons_cons]
          refine .cons ?_ (ih rr)
          split
          · exact rv
          · exact r1
  · have h' : ¬ (kvs.any ((fun k' => decide (k' = k)) ∘ fun x => x.1)) = true := h
    rw [if_neg h, if_neg h', List.map_append, List.map_append]
    exact ⟨rfl, r.append (.cons rv .nil)⟩
/-- the new content -/
def putD (d i z : D) : Option D := match d with
  | .lst xs => match i with
    | .int j => (ixN xs.length j).map fun n => .lst (xs.set n z)
    | _ => none
  | .dct ks ds => (keyOf i).bind fun k => if ks.length < sizeLine then some (.dct (dPut ks ds k z).1 (dPut ks ds k z).2) else none
  | _ => none
def rSetA : TSet := fun o i v H Q => rSetL o i v H Q ∨ ∃ a H', o = .ref a ∧ DPut H a i v H' ∧ Q H'
theorem set_any (hu : X.A.units + 64 < cLine) : PSet X rSetA := by
  intro pins s σ H o i v ov iv u Q I ro ri rv h
  rcases h with h | ⟨a, H', rfl, hp, q⟩
  · exact set_list pins s σ H o i v ov iv u Q I ro ri rv h
  · obtain rfl : ov = Value.ref a := ro
    exact d_setItem (by omega) I hp ri rv fun s' I' => ⟨H', I', q⟩
/-- the variable at i: its own list or dict, what it holds -/
def held (ρ : Env) (i : Nat) : Option D := (ρ[i]?).bind Cell.held
def put (ρ : Env) (i : Nat) (d : D) : Env := match ρ[i]? with
  | some c => ρ.set i (c.put d)
  | none => ρ
theorem put_own {G : Gx} {io : Io} {Rv F H : Hp} {ρ : Env} {σ : L2.St} {i : Nat} {d d' : D} (r : Rel G.K io Rv ρ F σ H) (h : held ρ i = some d) : ∃ p ob, σ[i]? = some (some (.ref p)) ∧ H p = some ob ∧ OwnObj G.K F p ob d ∧ ∀ ob', OwnObj G.K F p ob' d' → Rel G.K io Rv (put ρ i d') F σ (upd H p ob') := by
  unfold held at h
  cases e : ρ[i]? with
  | none => rw [e] at h; cases h
  | some c =>
    rw [e] at h
    have h : c.held = some d := h
    obtain ⟨p, e1, w⟩ := r.heldAt e h
    obtain ⟨ob, e2, e3⟩ := w.at_
    refine ⟨p, ob, e1, e2, e3, fun ob' ho => ?_⟩
    have q := r.write e h e1 ho
    unfold put
    rw [e]
    exact q
theorem putD_set {G : Gx} {F H : Hp} {d i z d' : D} {p : Addr} {ob : HO} {iv v : V} {Q : Hp → Prop} (fh : FLe F H) (hp : H p = some ob) (ho : OwnObj G.K F p ob d) (hi : Vw G.K F H iv i) (hv : Rp G.K F v z) (e : putD d i z = some d')
    (q : ∀ ob', OwnObj G.K F p ob' d' → Q (upd H p ob')) : rSetA (.ref p) iv v H Q := by
  cases d with
  | lst xs =>
    cases i with
    | int j =>
      obtain ⟨vs, rfl, r⟩ := ho
      simp only [putD] at e
      cases e2 : ixN xs.length j with
      | none => rw [e2] at e; cases e
      | some n =>
        rw [e2] at e
        cases e
        exact .inl ⟨p, vs, j, n, rfl, hi.int, hp, by rw [r.length]; exact e2, q _ ⟨_, rfl, r.set n hv⟩⟩
    | _ => simp only [putD] at e; cases e
  | dct ks ds =>
    obtain ⟨kvs, rfl, rfl, r⟩ := ho
    simp only [putD] at e
    cases e2 : keyOf i with
    | none => rw [e2] at e; cases e
    | some k =>
      rw [e2, Option.bind_some] at e
      split at e
      · rename_i hz
        cases e
        have ei := keyOf_vw hi e2
        subst ei
        obtain ⟨h1, h2⟩ := dPut_put (k := k) hv r
        exact .inr ⟨p, _, rfl, .inl ⟨kvs, k, hp, rfl, by simpa using hz, rfl⟩, q _ ⟨_, rfl, h1, h2⟩⟩
      · cases e
  | _ => simp only [putD] at e; cases e
/-- x[k] = ..; x is looked at ahead of k, changed behind it -/
def gPut (i : Nat) (sk : SO) : SG := fun z ρ => match held ρ i with
  | none => .stuck
  | some _ => (sk ρ).bind fun o ρ' => match held ρ' i, o.get ρ' with
    | some d, some k => match putD d k z with
      | some d' => .ok () (put ρ' i d')
      | none => .stuck
    | _, _ => .stuck
theorem d_gPut {i : Nat} (hu : At X W) (ho : PE X o (tVar i)) (hi : DO (GK X ex) X W e sa)
    (ha : ∀ v, assign (.Subscript o e pos) X.env v = (do
      let ov ← holding [v] (eval o X.env)
      let iv ← holding [v, ov] (eval e X.env)
      standAt pos
      holding [v, ov, iv] (setItem ov iv v)
      release [v, ov, iv] []) := by intro _; rfl) : DG (GK X ex) X W [] (.Subscript o e pos) (gPut i sa) :=
  wkG (pg_sub ho hi (set_any hu.un) ha) fun v σ H Q ⟨z, ρ, F, Rv, io, rel, rp, q⟩ => by
    unfold gPut at q
    cases e1 : held ρ i with
    | none => rw [e1] at q; exact q.elim
    | some d0 =>
      rw [e1] at q
      obtain ⟨p, ob, e2, e3, e4, _⟩ := put_own (G := GK X ex) (d' := d0) rel e1
      refine ⟨_, e2, ρ, F, Rv, io, rel, ?_⟩
      cases e5 : sa ρ with
      | stuck => rw [e5] at q; exact q.elim
      | exc x ρ' => rw [e5] at q; exact q
      | ok o' ρ' =>
        rw [e5] at q
        simp only [R.bind_ok] at q
        intro iv H' F' le rel' ok
        cases e6 : held ρ' i with
        | none => rw [e6] at q; exact q.elim
        | some d =>
          cases e7 : o'.get ρ' with
          | none => rw [e6, e7] at q; exact q.elim
          | some k =>
            rw [e6, e7] at q
            simp only at q
            cases e8 : putD d k z with
            | none => rw [e8] at q; exact q.elim
            | some d' =>
              rw [e8] at q
              obtain ⟨p', ob', e9, e10, e11, e12⟩ := put_own (G := GK X ex) (d' := d') rel' e6
              rw [e2] at e9
              cases e9
              exact putD_set (G := GK X ex) rel'.fH e10 e11 (rel'.view (G := GK X ex) ok e7) (rp.mono le) e8 fun ob2 h2 => q σ _ F' le (e12 ob2 h2) ⟨rfl, fun _ _ => rfl⟩

/-! ### x.append(e), x.pop(k), x.insert(k, e) -/
def heldL (ρ : Env) (i : Nat) : Option (List D) := match held ρ i with
  | some (.lst ds) => some ds
  | _ => none
theorem heldL_some {ρ : Env} {i : Nat} {ds : List D} (h : heldL ρ i = some ds) : held ρ i = some (.lst ds) := by
  unfold heldL at h
  split at h
  · rename_i e; cases h; exact e
  · cases h
/-- a method that changes a list: the result and the new content -/
def sMut (i : Nat) (f : List D → List D → Option (D × List D)) (s : SA) : SE := fun ρ => match heldL ρ i with
  | none => .stuck
  | some _ => (s ρ).bind fun es ρ' => match heldL ρ' i with
    | none => .stuck
    | some ds => match f ds es with
      | some r => .ok r.1 (put ρ' i (.lst r.2))
      | none => .stuck
/-- the rule r changes lists so -/
def LMut (G : Gx) (r : V → List V → Hp → VK → Prop) (f : List D → List D → Option (D × List D)) : Prop := ∀ F H p vs ds xs es z ds' (Q : VK), FLe F H → H p = some (.lst vs) → Rps G.K F vs ds → Rps G.K F xs es → f ds es = some (z, ds') →
  (∀ v vs', Rp G.K F v z → Rps G.K F vs' ds' → Q v (upd H p (.lst vs'))) → r (.ref p) xs H Q
theorem mut_core {i : Nat} {f : List D → List D → Option (D × List D)} {r : V → List V → Hp → VK → Prop} {σ : L2.St} {H : Hp} {Q : VK} (hf : LMut (GK X ex) r f)
    (h : tE (GK X ex) W (sMut i f sA) σ H Q) : tBM X.K "list" r (tVar i) (tA (GK X ex) W sA) σ H Q := by
  obtain ⟨ρ, F, Rv, io, rel, q⟩ := h
  unfold sMut at q
  cases e1 : heldL ρ i with
  | none => rw [e1] at q; exact q.elim
  | some ds0 =>
    rw [e1] at q
    obtain ⟨p, ob, e2, e3, e4, _⟩ := put_own (G := GK X ex) (d' := .lst ds0) rel (heldL_some e1)
    obtain ⟨vs0, rfl, r0⟩ := e4
    refine ⟨_, e2, .inl ⟨rfl, _, SqL.of e3⟩, ρ, F, Rv, io, rel, ?_⟩
    cases e5 : sA ρ with
    | stuck => rw [e5] at q; exact q.elim
    | exc x ρ' => rw [e5] at q; exact q
    | ok es ρ' =>
      rw [e5] at q
      simp only [R.bind_ok] at q
      intro xs H' F' le rel' rx
      cases e6 : heldL ρ' i with
      | none => rw [e6] at q; exact q.elim
      | some ds =>
        rw [e6] at q
        cases e8 : f ds es with
        | none => simp only [e8] at q
        | some z =>
          simp only [e8] at q
          obtain ⟨p', ob', e9, e10, e11, e12⟩ := put_own (G := GK X ex) (d' := .lst z.2) rel' (heldL_some e6)
          rw [e2] at e9
          cases e9
          obtain ⟨vs, rfl, r1⟩ := e11
          exact hf F' H' p vs ds xs es z.1 z.2 Q rel'.fH e10 r1 rx e8 fun v vs' rv rvs => q v _ F' le (e12 _ ⟨_, rfl, rvs⟩) rv
def mAppend (ds es : List D) : Option (D × List D) := match es with
  | [d] => if ds.length < sizeLine then some (.non, ds ++ [d]) else none
  | _ => none
theorem lmut_append {G : Gx} : LMut G rAppend mAppend := fun F H p vs ds xs es z ds' Q fh hp r rx e q => by
  unfold mAppend at e
  split at e
  · split at e
    · rename_i hz
      cases e
      cases rx with
      | cons a b => cases b; exact ⟨p, vs, _, rfl, rfl, hp, by rw [r.length]; exact hz, q _ _ .non (r.append (.cons a .nil))⟩
    · cases e
  · cases e
def mPop (ds es : List D) : Option (D × List D) := match es with
  | [.int i] => if -(2 ^ 63) ≤ i ∧ i < 2 ^ 63 then (seqIndex? i ds.length).bind fun k => (ds[k]?).map fun d => (d, ds.eraseIdx k) else none
  | _ => none
theorem lmut_pop {G : Gx} : LMut G rPopAt mPop := fun F H p vs ds xs es z ds' Q fh hp r rx e q => by
  unfold mPop at e
  split at e
  · rename_i i
    split at e
    · rename_i hb
      cases e2 : seqIndex? i ds.length with
      | none => rw [e2] at e; cases e
      | some k =>
        rw [e2, Option.bind_some] at e
        cases e3 : ds[k]? with
        | none => rw [e3] at e; cases e
        | some d =>
          rw [e3] at e
          cases e
          obtain ⟨v, e4, rv⟩ := r.get e3
          cases rx with
          | cons a b => cases b; cases a; exact ⟨p, vs, i, k, v, rfl, rfl, hp, hb.1, hb.2, by rw [r.length]; exact e2, e4, q _ _ rv (r.eraseIdx k)⟩
    · cases e
  · cases e
theorem d_mut {i : Nat} {name : Str} {apos cpos : Pos} {r : V → List V → Hp → VK → Prop} {f : List D → List D → Option (D × List D)} (slot : Slot "list" name id) (hty : typeOf (.builtin id) = pure (.type "method_descriptor")) (hm : MtR X id r) (hf : LMut (GK X ex) r f)
    (ho : PE X o (tVar i)) (ha : DA (GK X ex) X W (e :: es) sA) (hbase : attributeBase o name X.env (eval o X.env) = eval o X.env := by rfl)
    (hfew : ((backTo cpos (starEach (e :: es) X.env)).all (fun x => !x.1) && (backToKw cpos (keywordEach [] X.env)).all (fun x => x.1.isSome)
      && decide ((e :: es).length + ([] : List Keyword).length + (if ([] : List Keyword).isEmpty then 0 else 1) < 30)) = true := by rfl)
    (hline : (apos.endLine == cpos.line) = true := by rfl) (hs : starEach (e :: es) X.env = (false, eval e X.env) :: starEach es X.env := by rfl) (hplain : (backTo cpos (starEach es X.env)).any (·.1) = false := by rfl) :
    DE (GK X ex) X W (.Call (.Attribute o name apos) (e :: es) [] cpos) (sMut i f sA) :=
  wkE (pe_bm PySem.F.plainAttrs_list slot hty hm ho ha hbase hfew hline hs hplain) fun σ H Q h => mut_core hf h

/-! ### calls -/
structure Apart (F Rv H : Hp) : Prop where
  f : FLe F H
  r : FLe Rv H
  d : ∀ a o, F a = some o → Rv a = none
/-- a def that computes g on frozen data -/
def spP (G : Gx) (n : Nat) (g : List D → FR) : Sp := fun vs H Q E => ∃ ds F Rv, vs.length = n ∧ Apart F Rv H ∧ Rps G.K F vs ds ∧ match g ds with
  | .ok d _ => ∀ v H' F', FLe F F' → Apart F' Rv H' → Rp G.K F' v d → Q v H'
  | .exc x => ∀ cls dd H' F', FLe F F' → Apart F' Rv H' → XR G F' x cls dd H' → E cls dd H'
  | .stuck => False
/-- .. on a list or dict that it is lent first, and on frozen data -/
def spI (G : Gx) (n : Nat) (g : List D → FR) : Sp := fun vs H Q E => ∃ p ws d0 ds F Rv, vs = .ref p :: ws ∧ vs.length = n ∧ Apart F Rv H ∧ OwnAt G.K F Rv H p d0 ∧ Rps G.K F ws ds ∧ match g (d0 :: ds) with
  | .ok d [z] => ∀ v H' F', FLe F F' → Apart F' Rv H' → OwnAt G.K F' Rv H' p z → Rp G.K F' v d → Q v H'
  | _ => False
def endP (r : FR) (ρ : Env) : R D := match r with
  | .ok d _ => .ok d ρ
  | .exc x => .exc x ρ
  | .stuck => .stuck
def sCallP (n : Nat) (g : List D → FR) (s : SA) : SE := fun ρ => (s ρ).bind fun ds ρ' => if ds.length = n then endP (g ds) ρ' else .stuck
def endI (i : Nat) (r : FR) (ρ : Env) : R D := match r with
  | .ok d [z] => .ok d (put ρ i z)
  | _ => .stuck
/-- the first argument is the variable at i, which it is lent -/
def sCallI (i n : Nat) (g : List D → FR) (s : SA) : SE := fun ρ => match held ρ i with
  | none => .stuck
  | some _ => (s ρ).bind fun ds ρ' => match held ρ' i with
    | none => .stuck
    | some d0 => if ds.length + 1 = n then endI i (g (d0 :: ds)) ρ' else .stuck
section
variable {K : PySem.W.Frag} {io : Io} {Rv : Hp} {ρ : Env} {F F' : Hp} {σ : L2.St} {H H' : Hp}
/-- all that is not frozen, but p -/
def restOf (F H : Hp) (p : Option Addr) : Hp := fun a => if F a = none ∧ p ≠ some a then H a else none
theorem restOf_le (p : Option Addr) : FLe (restOf F H p) H := fun a o e => by
  unfold restOf at e
  split at e
  · exact e
  · cases e
theorem restOf_apart (r : Rel K io Rv ρ F σ H) (p : Option Addr) : Apart F (restOf F H p) H := ⟨r.fH, restOf_le p, fun a o e => by
  unfold restOf
  rw [if_neg (fun z => by rw [e] at z; cases z.1)]⟩
theorem Rel.behind (r : Rel K io Rv ρ F σ H) (le : FLe F F') (ap : Apart F' (restOf F H none) H') : Rel K io Rv ρ F' σ H' := by
  have keep : ∀ {a o}, F a = none → H a = some o → H' a = some o ∧ F' a = none := fun {a o} n e => by
    have q : restOf F H none a = some o := by
      unfold restOf
      rw [if_pos ⟨n, by intro z; cases z⟩]
      exact e
    refine ⟨ap.r _ _ q, ?_⟩
    cases e' : F' a with
    | none => rfl
    | some u => have z := ap.d a u e'; rw [q] at z; cases z
  have nF : ∀ {a o}, Rv a = some o → F a = none := fun {a o} e => by
    cases e' : F a with
    | none => rfl
    | some u => have z := r.dj a u e'; rw [e] at z; cases z
  refine ⟨ap.f, fun a o e => (keep (nF e) (r.rH a o e)).1, fun a o e => ?_, r.len, fun i c v e1 e2 => ?_, r.inj, r.ios, r.ioc, fun t ht => let q := r.tab t ht; let ⟨ps, ep⟩ := q.tbl; q.mv (keep q.1 ep).2 q.2.1 (fun ps e => (keep q.1 e).1) le⟩
  · cases e' : Rv a with
    | none => rfl
    | some u => have z := (keep (nF e') (r.rH a u e')).2; rw [e] at z; cases z
  · have q := r.cell i c v e1 e2
    have own : ∀ {p d}, OwnAt K F Rv H p d → OwnAt K F' Rv H' p d := fun {p d} w => by
      obtain ⟨o, e, h⟩ := w.at_
      obtain ⟨k1, k2⟩ := keep w.nF e
      exact ⟨k2, w.nR, o, k1, h.mono le⟩
    cases c with
    | no => trivial
    | fro d => obtain ⟨x, e, q⟩ := q; exact ⟨x, e, q.mono le⟩
    | own d => obtain ⟨p, e, q⟩ := q; exact ⟨p, e, own q⟩
    | io d => obtain ⟨p, e, q⟩ := q; exact ⟨p, e, own q⟩
theorem Rel.behindI (r : Rel K io Rv ρ F σ H) {i : Nat} {c : Cell} {d0 z : D} {p : Addr} (hc : ρ[i]? = some c) (hh : c.held = some d0) (hp : σ[i]? = some (some (.ref p))) (le : FLe F F') (ap : Apart F' (restOf F H (some p)) H') (ow : OwnAt K F' (restOf F H (some p)) H' p z) :
    Rel K io Rv (ρ.set i (c.put z)) F' σ H' := by
  have keep : ∀ {a o}, a ≠ p → F a = none → H a = some o → H' a = some o ∧ F' a = none := fun {a o} ne n e => by
    have q : restOf F H (some p) a = some o := by
      unfold restOf
      rw [if_pos ⟨n, by intro z; cases z; exact ne rfl⟩]
      exact e
    refine ⟨ap.r _ _ q, ?_⟩
    cases e' : F' a with
    | none => rfl
    | some u => have z := ap.d a u e'; rw [q] at z; cases z
  obtain ⟨p', e1, w⟩ := r.heldAt hc hh
  rw [hp] at e1; cases e1
  have hil : i < ρ.length := (List.getElem?_eq_some_iff.mp hc).1
  have nF : ∀ {a o}, Rv a = some o → F a = none := fun {a o} e => by
    cases e' : F a with
    | none => rfl
    | some u => have z := r.dj a u e'; rw [e] at z; cases z
  have nP : ∀ {a o}, Rv a = some o → a ≠ p := fun {a o} e z => by subst z; rw [w.nR] at e; cases e
  have hp2 : (c.put z).held = some z := by cases c <;> first | rfl | cases hh
  refine ⟨ap.f, fun a o e => (keep (nP e) (nF e) (r.rH a o e)).1, fun a o e => ?_, by rw [List.length_set]; exact r.len, fun j cj v e1 e2 => ?_, fun j k cj ck dj dk q h1 h2 h3 h4 h5 h6 => ?_, fun ip hip => ?_, fun j d' e => ?_, fun t ht => let q := r.tab t ht; let ⟨ps, ep⟩ := q.tbl; q.mv (keep (own_ne w ep) q.1 ep).2 q.2.1 (fun ps e => (keep (own_ne w e) q.1 e).1) le⟩
  · cases e' : Rv a with
    | none => rfl
    | some u => have z := (keep (nP e') (nF e') (r.rH a u e')).2; rw [e] at z; cases z
  · by_cases hj : i = j
    · subst hj
      rw [List.getElem?_set_self hil] at e1
      cases e1
      rw [hp] at e2; cases e2
      have own : OwnAt K F' Rv H' p z := ⟨ow.nF, w.nR, ow.at_⟩
      cases c with
      | no => cases hh
      | fro _ => cases hh
      | own _ => exact ⟨p, rfl, own⟩
      | io _ => exact ⟨p, rfl, own⟩
    · rw [List.getElem?_set_ne hj] at e1
      have q := r.cell j cj v e1 e2
      have own : ∀ {p' dj}, cj.held = some dj → v = some (.ref p') → OwnAt K F Rv H p' dj → OwnAt K F' Rv H' p' dj := fun {p' dj} h3 h4 w' => by
        have ne : p' ≠ p := fun z => by
          subst z
          rw [h4] at e2
          exact hj (r.inj i j c cj d0 dj p' hc e1 hh h3 hp e2)
        obtain ⟨o, e, h⟩ := w'.at_
        obtain ⟨k1, k2⟩ := keep ne w'.nF e
        exact ⟨k2, w'.nR, o, k1, h.mono le⟩
      cases cj with
      | no => trivial
      | fro d => obtain ⟨x, e, q⟩ := q; exact ⟨x, e, q.mono le⟩
      | own dj => obtain ⟨p', e, q⟩ := q; exact ⟨p', e, own rfl e q⟩
      | io dj => obtain ⟨p', e, q⟩ := q; exact ⟨p', e, own rfl e q⟩
  · have old : ∀ {j : Nat} {cj : Cell} {dj : D}, (ρ.set i (c.put z))[j]? = some cj → cj.held = some dj → ∃ cj' dj', ρ[j]? = some cj' ∧ cj'.held = some dj' := fun {j cj dj} e1 e2 => by
      by_cases hj : i = j
      · subst hj; exact ⟨c, d0, hc, hh⟩
      · rw [List.getElem?_set_ne hj] at e1; exact ⟨cj, dj, e1, e2⟩
    obtain ⟨_, _, g1, g2⟩ := old h1 h3
    obtain ⟨_, _, g3, g4⟩ := old h2 h4
    exact r.inj j k _ _ _ _ q g1 g3 g2 g4 h5 h6
  · obtain ⟨⟨d', e1⟩, e2⟩ := r.ios ip hip
    refine ⟨?_, e2⟩
    by_cases hj : i = ip.1
    · subst hj
      rw [hc] at e1; cases e1
      exact ⟨z, by rw [List.getElem?_set_self hil]; rfl⟩
    · exact ⟨d', by rw [List.getElem?_set_ne hj]; exact e1⟩
  · by_cases hj : i = j
    · subst hj
      rw [List.getElem?_set_self hil] at e
      cases c with
      | no => cases hh
      | fro _ => cases hh
      | own _ => cases e
      | io d'' => exact r.ioc i d'' hc
    · rw [List.getElem?_set_ne hj] at e; exact r.ioc j d' e
end
/-- a def that may be called by its name -/
structure Cal (P : Program) (w : World) (K : PySem.W.Frag) (mg : Str → Option Value) (base : Heap) (x : Str) (k : Nat) (sp : Sp) : Prop where
  there : ∃ f fd ps, FnOk P w K mg base (L2.CX P w) k f fd ps sp ∧ mg x = some (.ref f) ∧ PySem.W.keepIn K (.ref f) = true ∧ Binds K fd ps []
/-- a def of the text as it stands -/
structure Fn (K : PySem.W.Frag) (mg : Str → Option Value) (x : Str) (st : Stmt) (ps : List Str) : Prop where
  there : ∃ f fd, Fun K x x st f fd ∧ mg x = some (.ref f) ∧ Binds K fd ps []
theorem Cal.mono {P : Program} {w : World} {K : PySem.W.Frag} {mg : Str → Option Value} {base : Heap} {x : Str} {j k : Nat} {sp : Sp} (C : Cal P w K mg base x j sp) (h : j ≤ k) : Cal P w K mg base x k sp := by
  obtain ⟨f, fd, ps, F, r⟩ := C.there
  exact ⟨f, fd, ps, F.mono h, r⟩
variable {f : Addr} {fd : FuncData} {ps : List Str} {k n : Nat} {g : List D → FR}
theorem d_callP (hu : At X W) (C : Cal X.prog X.w X.K X.mg X.base x k (spP (GK X ex) n g)) (hr : Room k X.A) (hg : Gl X x)
    (ha : DA (GK X ex) X W (e :: es) sA) (hdb : (x == ("__debug__" : Str)) = false := by decide) (he : starEach (e :: es) X.env = (false, eval e X.env) :: starEach es X.env := by rfl) (hpl : (backTo pos (starEach es X.env)).any (·.1) = false := by rfl) :
    DE (GK X ex) X W (.Call (.Name x p) (e :: es) [] pos) (sCallP n g sA) :=
  let ⟨f, fd, ps, F, hm, hk, hb⟩ := C.there
  wkE (pe_callS (E := WE W) F hr hg hm hk hb (fun σ => passAt hu.tk σ) ha hdb he hpl) fun σ H Q ⟨ρ, F, Rv, io, rel, q⟩ => by
    refine ⟨ρ, F, Rv, io, rel, ?_⟩
    unfold sCallP at q
    cases e : sA ρ with
    | stuck => rw [e] at q; exact q.elim
    | exc x ρ' => rw [e] at q; exact q
    | ok ds ρ' =>
      rw [e, R.bind_ok] at q
      intro vs H1 F1 le rel1 r
      by_cases hn : ds.length = n
      · rw [if_pos hn] at q
        refine ⟨ds, F1, restOf F1 H1 none, r.length.trans hn, restOf_apart rel1 none, r, ?_⟩
        cases e2 : g ds with
        | stuck => rw [e2] at q; exact q.elim
        | ok d o => rw [e2] at q; exact fun v H' F' le2 ap rp => q v H' F' (le.trans le2) (rel1.behind le2 ap) rp
        | exc x => rw [e2] at q; exact fun cls dd H' F' le2 ap xr => q cls dd σ H' F' (le.trans le2) (rel1.behind le2 ap) xr
      · rw [if_neg hn] at q; exact q.elim
theorem d_callI {i : Nat} (hu : At X W) (C : Cal X.prog X.w X.K X.mg X.base x k (spI (GK X ex) n g)) (hr : Room k X.A) (hg : Gl X x)
    (ho : PE X e (tVar i)) (ha : DA (GK X ex) X W es sA) (hdb : (x == ("__debug__" : Str)) = false := by decide) (he : starEach (e :: es) X.env = (false, eval e X.env) :: starEach es X.env := by rfl) (hpl : (backTo pos (starEach es X.env)).any (·.1) = false := by rfl) :
    DE (GK X ex) X W (.Call (.Name x p) (e :: es) [] pos) (sCallI i n g sA) :=
  let ⟨f, fd, ps, F, hm, hk, hb⟩ := C.there
  wkE (pe_callS (E := WE W) F hr hg hm hk hb (fun σ => passAt hu.tk σ) (pa_cons ho ha he) hdb he hpl) fun σ H Q ⟨ρ, F, Rv, io, rel, q⟩ => by
    unfold sCallI at q
    cases e0 : held ρ i with
    | none => rw [e0] at q; exact q.elim
    | some d00 =>
      rw [e0] at q
      obtain ⟨p0, _, e1, _⟩ := put_own (G := GK X ex) (d' := d00) rel e0
      refine ⟨_, e1, ρ, F, Rv, io, rel, ?_⟩
      cases e : sA ρ with
      | stuck => rw [e] at q; exact q.elim
      | exc x ρ' => rw [e] at q; exact q
      | ok ds ρ' =>
        rw [e] at q
        simp only [R.bind_ok] at q
        intro vs H1 F1 le rel1 r
        cases e2 : held ρ' i with
        | none => rw [e2] at q; exact q.elim
        | some d0 =>
          rw [e2] at q
          by_cases hn : ds.length + 1 = n
          · simp only [if_pos hn] at q
            obtain ⟨c, hc, hh⟩ : ∃ c, ρ'[i]? = some c ∧ c.held = some d0 := by
              unfold held at e2
              cases e3 : ρ'[i]? with
              | none => rw [e3] at e2; cases e2
              | some c => rw [e3] at e2; exact ⟨c, rfl, e2⟩
            obtain ⟨p', e4, w⟩ := rel1.heldAt hc hh
            rw [e1] at e4
            cases e4
            have nR : restOf F1 H1 (some p0) p0 = none := by unfold restOf; rw [if_neg (fun z => z.2 rfl)]
            refine ⟨p0, vs, d0, ds, F1, restOf F1 H1 (some p0), rfl, by rw [List.length_cons, r.length]; exact hn, restOf_apart rel1 _, ⟨w.nF, nR, w.at_⟩, r, ?_⟩
            cases e5 : g (d0 :: ds) with
            | stuck => rw [e5] at q; exact q.elim
            | exc x => rw [e5] at q; exact q.elim
            | ok d o =>
              rw [e5] at q
              match o, q with
              | [], q => exact q.elim
              | [z], q =>
                refine fun v H' F' le2 ap ow rp => q v H' F' (le.trans le2) ?_ rp
                have z1 := rel1.behindI hc hh e1 le2 ap ow
                unfold put
                rw [hc]
                exact z1
              | _ :: _ :: _, q => exact q.elim
          · simp only [if_neg hn] at q

/-! ### defs -/
def runP (m n : Nat) (body : SS) : List D → FR := fun ds => match body (ds.map Cell.fro ++ List.replicate (m - n) Cell.no) with
  | .ok (.rt d) _ => .ok d []
  | .ok .nx _ => .ok .non []
  | .exc x _ => .exc x
  | _ => .stuck
def lastIo (ρ : Env) : List D := match (ρ[0]? : Option Cell) with
  | some (.io d) => [d]
  | _ => []
def runI (m n : Nat) (body : SS) : List D → FR := fun ds => match ds with
  | [] => .stuck
  | d0 :: ds => match body (Cell.io d0 :: ds.map Cell.fro ++ List.replicate (m - n) Cell.no) with
    | .ok (.rt d) ρ => .ok d (lastIo ρ)
    | .ok .nx ρ => .ok .non (lastIo ρ)
    | _ => .stuck
section
variable {P : Program} {w : World} {K : PySem.W.Frag} {mg : Str → Option Value} {base : Heap}
abbrev wE (E : XK) : WX := fun cls d _ H => E cls d H
abbrev cx (P : Program) (w : World) (K : PySem.W.Frag) (mg : Str → Option Value) (base : Heap) (N : List Str) (qual : Str) (st : Stmt) (f : Addr) (cdv : Value) (A : Around) (outer : List PySem.Env) (s : Shared) (H : Hp) (E : XK) : Cx := cxOf (L2.CX P w) P w K mg base N qual (defScope st) f cdv A outer s H E
theorem at_def {N ps : List Str} {qual : Str} {st : Stmt} {f : Addr} {cdv : Value} {A : Around} {outer : List PySem.Env} {s : Shared} {H : Hp} {E : XK} {k : Nat} (S : FnScope N ps (defScope st)) (hr : Room k (A.deeper (envOfC qual (defScope st) s.heap.objs.size f cdv))) :
    At (cxOf (L2.CX P w) P w K mg base N qual (defScope st) f cdv A outer s H E) (wE E) := ⟨rfl, S.nd, hr.units, takes_of rfl rfl rfl rfl⟩
theorem cells_start {F : Hp} : ∀ {vs : List V} {ds : List D}, Rps K F vs ds → ∀ {m n : Nat} {Rv H : Hp} (i : Nat) (c : Cell) (v : Option V), (ds.map Cell.fro ++ List.replicate m Cell.no)[i]? = some c → (vs.map some ++ List.replicate m none)[i]? = some v → CellOk K F Rv H v c
  | _, _, .nil, m, n, Rv, H, i, c, v, e1, e2 => by
    simp only [List.map_nil, List.nil_append] at e1
    rw [List.getElem?_replicate] at e1
    split at e1
    · cases e1; trivial
    · cases e1
  | _, _, .cons a b, m, n, Rv, H, 0, c, v, e1, e2 => by
    simp at e1 e2
    subst e1 e2
    exact ⟨_, rfl, a⟩
  | _, _, .cons a b, m, n, Rv, H, i + 1, c, v, e1, e2 => cells_start b (n := n) i c v (by simpa using e1) (by simpa using e2)
theorem fro_held {ds : List D} {m i : Nat} {c : Cell} (e : (ds.map Cell.fro ++ List.replicate m Cell.no)[i]? = some c) : c.held = none := by
  rw [List.getElem?_append] at e
  split at e
  · rw [List.getElem?_map] at e
    cases e2 : ds[i]? with
    | none => rw [e2] at e; cases e
    | some d => rw [e2] at e; cases e; rfl
  · rw [List.getElem?_replicate] at e
    split at e
    · cases e; rfl
    · cases e
theorem rel_start {F Rv H : Hp} {vs : List V} {ds : List D} {m : Nat} (ap : Apart F Rv H) (r : Rps K F vs ds) : Rel K {} Rv (ds.map Cell.fro ++ List.replicate m Cell.no) F (vs.map some ++ List.replicate m none) H := by
  refine ⟨ap.f, ap.r, ap.d, by simp [r.length], fun i c v e1 e2 => cells_start r (n := 0) i c v e1 e2, fun i j ci cj di dj p e1 e2 h1 h2 _ _ => ?_, fun ip hip => (nomatch hip), fun i d e => ?_, fun t ht => (nomatch ht)⟩
  · rw [fro_held e1] at h1; cases h1
  · have z := fro_held e; cases z
theorem rel_startI {F Rv H : Hp} {p : Addr} {d0 : D} {vs : List V} {ds : List D} {m : Nat} (ap : Apart F Rv H) (ow : OwnAt K F Rv H p d0) (r : Rps K F vs ds) :
    Rel K { l := [(0, p)] } Rv (Cell.io d0 :: (ds.map Cell.fro ++ List.replicate m Cell.no)) F (some (.ref p) :: (vs.map some ++ List.replicate m none)) H := by
  have r0 := rel_start (m := m) ap r
  refine ⟨ap.f, ap.r, ap.d, by simp [r.length], fun i c v e1 e2 => ?_, fun i j ci cj di dj q e1 e2 h1 h2 _ _ => ?_, fun ip hip => ?_, fun i d e => ?_, fun t ht => (nomatch ht)⟩
  · cases i with
    | zero => simp at e1 e2; subst e1 e2; exact ⟨p, rfl, ow⟩
    | succ i => exact r0.cell i c v (by simpa using e1) (by simpa using e2)
  · have z : ∀ {i : Nat} {c : Cell} {d : D}, (Cell.io d0 :: (ds.map Cell.fro ++ List.replicate m Cell.no))[i]? = some c → c.held = some d → i = 0 := fun {i c d} e h => by
      cases i with
      | zero => rfl
      | succ i => rw [fro_held (by simpa using e)] at h; cases h
    rw [z e1 h1, z e2 h2]
  · obtain rfl : ip = (0, p) := List.mem_singleton.mp hip
    exact ⟨⟨d0, rfl⟩, rfl⟩
  · cases i with
    | zero => exact ⟨p, List.mem_singleton.mpr rfl⟩
    | succ i => have z := fro_held (c := .io d) (by simpa using e); cases z
theorem d_defP {x qual : Str} {st : Stmt} {f : Addr} {fd : FuncData} {N ps : List Str} {k : Nat} {body : SS} (ex : String → Addr) (F : Fun K x qual st f fd) (S : FnScope N ps (defScope st))
    (h : ∀ (cdv : Value) (A : Around) (outer : List PySem.Env) (s : Shared) (H : Hp) (E : XK), Room k (A.deeper (envOfC qual (defScope st) s.heap.objs.size f cdv)) →
      DSs ⟨K, ex⟩ (cxOf (L2.CX P w) P w K mg base N qual (defScope st) f cdv A outer s H E) (wE E) (defBody st) body) : FnOk P w K mg base (L2.CX P w) (k + 1) f fd ps (spP ⟨K, ex⟩ ps.length (runP N.length ps.length body)) := by
  refine F.okX S (fun vs H Q E ⟨_, _, _, hl, _⟩ => hl) fun cdv A outer s H vs Q E hr ⟨ds, F0, Rv, hl, ap, r, q⟩ => ⟨_, h cdv A outer s H E hr, ?_⟩
  have e0 : L2.start N vs = vs.map some ++ List.replicate (N.length - ps.length) none := by unfold L2.start; rw [hl]
  rw [e0]
  refine ⟨_, F0, Rv, {}, rel_start ap r, ?_⟩
  unfold runP at q
  cases e : body (ds.map Cell.fro ++ List.replicate (N.length - ps.length) Cell.no) with
  | stuck => rw [e] at q; exact q.elim
  | exc x ρ' => rw [e] at q; exact fun cls dd σ' H' F' le rel xr => q cls dd H' F' le ⟨rel.fH, rel.rH, rel.dj⟩ xr
  | ok fl ρ' =>
    rw [e] at q
    cases fl with
    | nx => exact fun σ' H' F' le rel => q _ H' F' le ⟨rel.fH, rel.rH, rel.dj⟩ .non
    | bk => exact q.elim
    | ct => exact q.elim
    | rt d => exact fun v σ' H' F' le rel rp => q v H' F' le ⟨rel.fH, rel.rH, rel.dj⟩ rp
theorem d_defI {x qual : Str} {st : Stmt} {f : Addr} {fd : FuncData} {N ps : List Str} {k : Nat} {body : SS} (ex : String → Addr) (F : Fun K x qual st f fd) (S : FnScope N ps (defScope st)) (h0 : 0 < ps.length)
    (h : ∀ (cdv : Value) (A : Around) (outer : List PySem.Env) (s : Shared) (H : Hp) (E : XK), Room k (A.deeper (envOfC qual (defScope st) s.heap.objs.size f cdv)) →
      DSs ⟨K, ex⟩ (cxOf (L2.CX P w) P w K mg base N qual (defScope st) f cdv A outer s H E) (wE E) (defBody st) body) : FnOk P w K mg base (L2.CX P w) (k + 1) f fd ps (spI ⟨K, ex⟩ ps.length (runI N.length ps.length body)) := by
  refine F.okX S (fun vs H Q E ⟨_, _, _, _, _, _, _, hl, _⟩ => hl) fun cdv A outer s H vs Q E hr ⟨p, ws, d0, ds, F0, Rv, hv, hl, ap, ow, r, q⟩ => ⟨_, h cdv A outer s H E hr, ?_⟩
  have e0 : L2.start N vs = some (.ref p) :: (ws.map some ++ List.replicate (N.length - ps.length) none) := by unfold L2.start; rw [hl, hv]; rfl
  rw [e0]
  refine ⟨_, F0, Rv, { l := [(0, p)] }, rel_startI ap ow r, ?_⟩
  unfold runI at q
  have fin : ∀ {ρ' : Env} {σ' : L2.St} {H' F' : Hp} {z : D}, Rel K { l := [(0, p)] } Rv ρ' F' σ' H' → lastIo ρ' = [z] → OwnAt K F' Rv H' p z := fun {ρ' σ' H' F' z} rel e => by
    obtain ⟨⟨d, e1⟩, e2⟩ := rel.ios (0, p) (List.mem_singleton.mpr rfl)
    unfold lastIo at e
    rw [e1] at e
    cases e
    obtain ⟨p', e3, w⟩ := rel.heldAt e1 rfl
    rw [e2] at e3
    cases e3
    exact w
  have fin2 : ∀ {ρ' : Env} {σ' : L2.St} {H' F' : Hp}, Rel K { l := [(0, p)] } Rv ρ' F' σ' H' → ∃ z, lastIo ρ' = [z] := fun {ρ' σ' H' F'} rel => by
    obtain ⟨⟨d, e1⟩, e2⟩ := rel.ios (0, p) (List.mem_singleton.mpr rfl)
    exact ⟨d, by unfold lastIo; rw [e1]⟩
  have q : (match (match body (Cell.io d0 :: (ds.map Cell.fro ++ List.replicate (N.length - ps.length) Cell.no)) with
    | .ok (.rt d) ρ => FR.ok d (lastIo ρ)
    | .ok .nx ρ => .ok .non (lastIo ρ)
    | _ => .stuck) with
    | .ok d [z] => ∀ v H' F', FLe F0 F' → Apart F' Rv H' → OwnAt K F' Rv H' p z → Rp K F' v d → Q v H'
    | _ => False) := q
  cases e : body (Cell.io d0 :: (ds.map Cell.fro ++ List.replicate (N.length - ps.length) Cell.no)) with
  | stuck => rw [e] at q; exact q.elim
  | exc x ρ' => rw [e] at q; exact q.elim
  | ok fl ρ' =>
    rw [e] at q
    cases fl with
    | nx =>
      intro σ' H' F' le rel
      obtain ⟨z, hz⟩ := fin2 rel
      simp only [hz] at q
      exact q _ H' F' le ⟨rel.fH, rel.rH, rel.dj⟩ (fin rel hz) .non
    | bk => exact q.elim
    | ct => exact q.elim
    | rt d =>
      intro v σ' H' F' le rel rp
      obtain ⟨z, hz⟩ := fin2 rel
      simp only [hz] at q
      exact q v H' F' le ⟨rel.fH, rel.rH, rel.dj⟩ (fin rel hz) rp
theorem at_blk {X : Cx} {W : WX} (hu : At X W) {s : Shared} {H : Hp} {scope : Scope} {cenv : PySem.Env} {fp : List Addr} : At (X.blk s H scope cenv fp) W0 := ⟨hu.calm, hu.nd, hu.un, takes0⟩
theorem cal_P {x : Str} {st : Stmt} {N ps : List Str} {k : Nat} {body : SS} (ex : String → Addr) (F : Fn K mg x st ps) (S : FnScope N ps (defScope st))
    (h : ∀ (f : Addr) (cdv : Value) (A : Around) (outer : List PySem.Env) (s : Shared) (H : Hp) (E : XK), Room k (A.deeper (envOfC x (defScope st) s.heap.objs.size f cdv)) →
      DSs ⟨K, ex⟩ (cxOf (L2.CX P w) P w K mg base N x (defScope st) f cdv A outer s H E) (wE E) (defBody st) body) : Cal P w K mg base x (k + 1) (spP ⟨K, ex⟩ ps.length (runP N.length ps.length body)) := by
  obtain ⟨f, fd, F, hm, hb⟩ := F.there
  exact ⟨f, fd, ps, d_defP ex F S (h f), hm, F.kp, hb⟩
theorem cal_I {x : Str} {st : Stmt} {N ps : List Str} {k : Nat} {body : SS} (ex : String → Addr) (F : Fn K mg x st ps) (S : FnScope N ps (defScope st)) (h0 : 0 < ps.length)
    (h : ∀ (f : Addr) (cdv : Value) (A : Around) (outer : List PySem.Env) (s : Shared) (H : Hp) (E : XK), Room k (A.deeper (envOfC x (defScope st) s.heap.objs.size f cdv)) →
      DSs ⟨K, ex⟩ (cxOf (L2.CX P w) P w K mg base N x (defScope st) f cdv A outer s H E) (wE E) (defBody st) body) : Cal P w K mg base x (k + 1) (spI ⟨K, ex⟩ ps.length (runI N.length ps.length body)) := by
  obtain ⟨f, fd, F, hm, hb⟩ := F.there
  exact ⟨f, fd, ps, d_defI ex F S h0 (h f), hm, F.kp, hb⟩
/-- no turn left -/
theorem cal_P0 {x : Str} {st : Stmt} {N ps : List Str} (k : Nat) (ex : String → Addr) (F : Fn K mg x st ps) (S : FnScope N ps (defScope st)) : Cal P w K mg base x (k + 1) (spP ⟨K, ex⟩ ps.length fun _ => .stuck) := by
  obtain ⟨f, fd, F, hm, hb⟩ := F.there
  exact ⟨f, fd, ps, F.okX S (fun vs H Q E ⟨_, _, _, hl, _⟩ => hl) fun _ _ _ _ _ _ _ _ _ ⟨_, _, _, _, _, _, q⟩ => q.elim, hm, F.kp, hb⟩
theorem cal_I0 {x : Str} {st : Stmt} {N ps : List Str} (k : Nat) (ex : String → Addr) (F : Fn K mg x st ps) (S : FnScope N ps (defScope st)) : Cal P w K mg base x (k + 1) (spI ⟨K, ex⟩ ps.length fun _ => .stuck) := by
  obtain ⟨f, fd, F, hm, hb⟩ := F.there
  exact ⟨f, fd, ps, F.okX S (fun vs H Q E ⟨_, _, _, _, _, _, _, hl, _⟩ => hl) fun _ _ _ _ _ _ _ _ _ ⟨_, _, _, _, _, _, _, _, _, _, _, q⟩ => q.elim, hm, F.kp, hb⟩
def mInsert (ds es : List D) : Option (D × List D) := match es with
  | [.int i, d] => if ds.length < sizeLine ∧ 0 ≤ i ∧ i < 2 ^ 63 then some (.non, ds.take i.toNat ++ [d] ++ ds.drop i.toNat) else none
  | _ => none
theorem lmut_insert {G : Gx} : LMut G (fun x vs H Q => ∃ (l : Addr) (xs : List V) (i : Int) (y : V), x = V.ref l ∧ vs = [V.int i, y] ∧ H l = some (.lst xs) ∧ xs.length < sizeLine ∧ 0 ≤ i ∧ i < 2 ^ 63 ∧ Q V.non (upd H l (.lst (xs.take i.toNat ++ [y] ++ xs.drop i.toNat)))) mInsert := fun F H p vs ds xs es z ds' Q fh hp r rx e q => by
  unfold mInsert at e
  split at e
  · split at e
    · rename_i hz
      cases e
      cases rx with
      | cons a b =>
        cases b with
        | cons b c => cases c; cases a; exact ⟨p, vs, _, _, rfl, rfl, hp, by rw [r.length]; exact hz.1, hz.2.1, hz.2.2, q _ _ .non (((r.take _).append (.cons b .nil)).append (r.drop _))⟩
    · cases e
  · cases e
end
/-- a module's constant that is no object -/
theorem d_glob {v : V} {d : D} (hg : Gl X x) (hm : ∃ u, X.mg x = some u ∧ RelV v u) (rp : ∀ F, Rp X.K F v d) (hd : (x == ("__debug__" : Str)) = false := by decide) : DE (GK X ex) X W (.Name x p) (sCst d) :=
  let ⟨_, h1, h2⟩ := hm
  d_cst (pe_glob hg h1 h2 hd) rp
/-- no test -/
def tT1 : ST := fun ρ => .ok true ρ
theorem pts_nilT : PTs X [] (tT (GK X ex) W tT1) := ⟨fun pins s σ H Q I ⟨ρ, F, Rv, io, rel, q⟩ => pts_nil.run pins s σ H Q I (q H F (FLe.refl F) rel)⟩
end
end Dt

set_option Elab.async false
set_option linter.all false
set_option maxRecDepth 100000
/-! Plain reckoning: what the combinators are, as rewriting rules; loops by their invariants; data of bounded size. -/
namespace Dt
open PySem

/-- the first part is reckoned, then the rest -/
@[simp ↓] theorem ev_bind {α β : Type} (r : R α) (f : α → Env → R β) : r.bind f = match r with | .ok a ρ => f a ρ | .exc x ρ => .exc x ρ | .stuck => .stuck := rfl
@[simp] theorem ev_loc (i : Nat) (ρ : Env) : sLoc i ρ = match ρ[i]? with | some .no => .stuck | none => .stuck | _ => .ok (.loc i) ρ := rfl
@[simp] theorem ev_var (i : Nat) (ρ : Env) : sVar i ρ = match ρ[i]? with | some (.fro d) => .ok d ρ | some (.own d) => .ok d (ρ.set i (.fro d)) | _ => .stuck := rfl
@[simp] theorem ev_gSet (i : Nat) (d : D) (ρ : Env) : gSet i d ρ = match ρ[i]? with | some (.io _) => .stuck | none => .stuck | _ => .ok () (ρ.set i (.fro d)) := rfl
@[simp] theorem ev_gOwn (i : Nat) (d : D) (ρ : Env) : gOwn i d ρ = match ρ[i]? with | some (.io _) => .stuck | none => .stuck | _ => .ok () (ρ.set i (.own d)) := rfl
@[simp] theorem ev_held (ρ : Env) (i : Nat) : held ρ i = (ρ[i]?).bind Cell.held := rfl
@[simp] theorem ev_put (ρ : Env) (i : Nat) (d : D) : put ρ i d = match ρ[i]? with | some c => ρ.set i (c.put d) | none => ρ := rfl
@[simp] theorem ev_heldL (ρ : Env) (i : Nat) : heldL ρ i = match held ρ i with | some (.lst ds) => some ds | _ => none := rfl
@[simp] theorem ev_gPut (i : Nat) (sk : SO) (z : D) (ρ : Env) : gPut i sk z ρ = match held ρ i with
  | none => .stuck
  | some _ => (sk ρ).bind fun o ρ' => match held ρ' i, o.get ρ' with
    | some d, some k => match putD d k z with
      | some d' => .ok () (put ρ' i d')
      | none => .stuck
    | _, _ => .stuck := rfl
@[simp] theorem ev_mut (i : Nat) (f : List D → List D → Option (D × List D)) (s : SA) (ρ : Env) : sMut i f s ρ = match heldL ρ i with
  | none => .stuck
  | some _ => (s ρ).bind fun es ρ' => match heldL ρ' i with
    | none => .stuck
    | some ds => match f ds es with
      | some r => .ok r.1 (put ρ' i (.lst r.2))
      | none => .stuck := rfl
@[simp] theorem ev_callI (i n : Nat) (g : List D → FR) (s : SA) (ρ : Env) : sCallI i n g s ρ = match held ρ i with
  | none => .stuck
  | some _ => (s ρ).bind fun ds ρ' => match held ρ' i with
    | none => .stuck
    | some d0 => if ds.length + 1 = n then endI i (g (d0 :: ds)) ρ' else .stuck := rfl
@[simp] theorem ev_cst (d : D) (ρ : Env) : sCst d ρ = .ok d ρ := rfl
@[simp] theorem ev_val (s : SE) (ρ : Env) : sVal s ρ = (s ρ).bind fun d ρ' => .ok (.val d) ρ' := rfl
@[simp] theorem ev_nil (ρ : Env) : sNil ρ = .ok [] ρ := rfl
@[simp] theorem ev_cons (s : SE) (t : SA) (ρ : Env) : sCons s t ρ = (s ρ).bind fun d ρ1 => (t ρ1).bind fun ds ρ2 => .ok (d :: ds) ρ2 := rfl
@[simp] theorem ev_bnil (ρ : Env) : bNil ρ = .ok [] ρ := rfl
@[simp] theorem ev_bcons (s : SO) (t : SB) (ρ : Env) : bCons s t ρ = (s ρ).bind fun d ρ1 => (t ρ1).bind fun ds ρ2 => .ok (d :: ds) ρ2 := rfl
@[simp] theorem ev_b1 (s : SO) (ρ : Env) : b1 s ρ = (s ρ).bind fun d ρ1 => .ok [d] ρ1 := rfl
@[simp] theorem ev_b2 (s t : SO) (ρ : Env) : b2 s t ρ = (s ρ).bind fun d ρ1 => (t ρ1).bind fun e ρ2 => .ok [d, e] ρ2 := by
  show (s ρ).bind _ = (s ρ).bind _
  congr 1
  funext d ρ1
  show (bCons t bNil ρ1).bind _ = _
  rw [ev_bcons]
  cases t ρ1 <;> rfl
@[simp] theorem ev_ops (g : List D → Option D) (s : SB) (ρ : Env) : sOps g s ρ = (s ρ).bind fun os ρ' => ofO ((getAll ρ' os).bind g) ρ' := rfl
@[simp] theorem ev_ofS {α : Type} (a : α) (ρ : Env) : ofO (some a) ρ = .ok a ρ := rfl
@[simp] theorem ev_ofN {α : Type} (ρ : Env) : ofO (none : Option α) ρ = .stuck := rfl
@[simp] theorem ev_getV (d : D) (ρ : Env) : (Opd.val d).get ρ = some d := rfl
@[simp] theorem ev_getL (i : Nat) (ρ : Env) : (Opd.loc i).get ρ = (ρ[i]?).bind Cell.data := rfl
@[simp] theorem ev_all0 (ρ : Env) : getAll ρ [] = some [] := rfl
@[simp] theorem ev_all1 (o : Opd) (os : List Opd) (ρ : Env) : getAll ρ (o :: os) = (o.get ρ).bind fun d => (getAll ρ os).map fun ds => d :: ds := rfl
@[simp] theorem cd_fro (d : D) : (Cell.fro d).data = some d := rfl
@[simp] theorem cd_own (d : D) : (Cell.own d).data = some d := rfl
@[simp] theorem cd_io (d : D) : (Cell.io d).data = some d := rfl
@[simp] theorem cd_no : Cell.no.data = none := rfl
@[simp] theorem ch_fro (d : D) : (Cell.fro d).held = none := rfl
@[simp] theorem ch_own (d : D) : (Cell.own d).held = some d := rfl
@[simp] theorem ch_io (d : D) : (Cell.io d).held = some d := rfl
@[simp] theorem ch_no : Cell.no.held = none := rfl
@[simp] theorem cp_own (d e : D) : (Cell.own d).put e = .own e := rfl
@[simp] theorem cp_io (d e : D) : (Cell.io d).put e = .io e := rfl
@[simp] theorem ev_tst (s : SE) (ρ : Env) : sTst s ρ = (s ρ).bind fun d ρ' => match d with | .bl k => .ok k ρ' | _ => .stuck := rfl
@[simp] theorem ev_chain (g g' : List D → Option D) (sa sb sc : SO) (ρ : Env) : sChain g g' sa sb sc ρ = (sa ρ).bind fun x ρ1 => (sb ρ1).bind fun y ρ2 => (ofO ((getAll ρ2 [x, y]).bind g) ρ2).bind fun z ρ2 => match z with
  | .bl true => (sc ρ2).bind fun w ρ3 => ofO ((getAll ρ3 [y, w]).bind g') ρ3
  | .bl false => .ok (.bl false) ρ2
  | _ => .stuck := rfl
@[simp] theorem ev_tru (s : SO) (ρ : Env) : sTru s ρ = (s ρ).bind fun o ρ' => ofO ((o.get ρ').bind D.truth) ρ' := rfl
@[simp] theorem ev_and (s t : ST) (ρ : Env) : tAndS s t ρ = (s ρ).bind fun k ρ' => match k with | true => t ρ' | false => .ok false ρ' := rfl
@[simp] theorem ev_or (s t : ST) (ρ : Env) : tOrS s t ρ = (s ρ).bind fun k ρ' => match k with | true => .ok true ρ' | false => t ρ' := rfl
@[simp] theorem ev_tnot (s : ST) (ρ : Env) : tNotS s ρ = (s ρ).bind fun k ρ' => .ok (!k) ρ' := rfl
@[simp] theorem ev_sand (s t : SE) (ρ : Env) : sAnd s t ρ = (s ρ).bind fun d ρ' => match d.truth with | some true => t ρ' | some false => .ok d ρ' | none => .stuck := rfl
@[simp] theorem ev_sor (s t : SE) (ρ : Env) : sOr s t ρ = (s ρ).bind fun d ρ' => match d.truth with | some true => .ok d ρ' | some false => t ρ' | none => .stuck := rfl
@[simp] theorem ev_not (s : SO) (ρ : Env) : sNot s ρ = (sTru s ρ).bind fun k ρ' => .ok (.bl (!k)) ρ' := rfl
@[simp] theorem ev_if (t : ST) (a b : SE) (ρ : Env) : sIf t a b ρ = (t ρ).bind fun k ρ' => match k with | true => a ρ' | false => b ρ' := rfl
@[simp] theorem tr_bl (b : Bool) : (D.bl b).truth = some b := rfl
@[simp] theorem tr_non : D.non.truth = some false := rfl
@[simp] theorem tr_int (i : Int) : (D.int i).truth = some (i != 0) := rfl
@[simp] theorem ev_pn (ρ : Env) : sPn ρ = .ok none ρ := rfl
@[simp] theorem ev_pe (s : SE) (ρ : Env) : sPe s ρ = (s ρ).bind fun d ρ' => match d with | .int i => .ok (some i) ρ' | _ => .stuck := rfl
@[simp] theorem ev_slice (s : SO) (lo hi : SP') (ρ : Env) : sSlice s lo hi ρ = (s ρ).bind fun o ρ1 => (lo ρ1).bind fun l ρ2 => (hi ρ2).bind fun h ρ3 => ofO ((o.get ρ3).bind fun d => sliceD d l h) ρ3 := rfl
@[simp] theorem ev_rev (s : SO) (ρ : Env) : sRev s ρ = (s ρ).bind fun o ρ' => match o.get ρ' with | some (.lst xs) => .ok (.lst xs.reverse) ρ' | _ => .stuck := rfl
@[simp] theorem ev_tup (s : SA) (ρ : Env) : sTup s ρ = (s ρ).bind fun ds ρ' => if ds.length ≤ sizeLine then .ok (.tup ds) ρ' else .stuck := rfl
@[simp] theorem ev_lst (s : SA) (ρ : Env) : sLst s ρ = (s ρ).bind fun ds ρ' => if ds.length ≤ sizeLine then .ok (.lst ds) ρ' else .stuck := rfl
@[simp] theorem ev_isi (ts : List String) (s : SO) (ρ : Env) : sIsi ts s ρ = (s ρ).bind fun o ρ' => ofO ((o.get ρ').bind (isTo ts)) ρ' := rfl
@[simp] theorem isTo_non {ts : List String} : isTo ts .non = some (.bl (ts.any (isT .non))) := rfl
@[simp] theorem isTo_bl {ts : List String} {b : Bool} : isTo ts (.bl b) = some (.bl (ts.any (isT (.bl b)))) := rfl
@[simp] theorem isTo_int {ts : List String} {b : Int} : isTo ts (.int b) = some (.bl (ts.any (isT (.int b)))) := rfl
@[simp] theorem isTo_str {ts : List String} {b : Str} : isTo ts (.str b) = some (.bl (ts.any (isT (.str b)))) := rfl
@[simp] theorem isTo_tup {ts : List String} {b : List D} : isTo ts (.tup b) = some (.bl (ts.any (isT (.tup b)))) := rfl
@[simp] theorem isTo_lst {ts : List String} {b : List D} : isTo ts (.lst b) = some (.bl (ts.any (isT (.lst b)))) := rfl
@[simp] theorem isTo_scr {ts : List String} {b : List Int} : isTo ts (.scr b) = some (.bl (ts.any (isT (.scr b)))) := rfl
@[simp] theorem isTo_arg {ts : List String} {b : List D} : isTo ts (.arg b) = some (.bl (ts.any (isT (.arg b)))) := rfl
@[simp] theorem isTo_dct {ts : List String} {ks : List L2.Key} {ds : List D} : isTo ts (.dct ks ds) = some (.bl (ts.any (isT (.dct ks ds)))) := rfl
@[simp] theorem ev_iAny (s : SE) (ρ : Env) : iAny s ρ = (s ρ).bind fun d ρ' => ofO (itemsD d) ρ' := rfl
@[simp] theorem ev_iRng1 (s : SA) (ρ : Env) : iRng1' s ρ = (s ρ).bind fun ds ρ' => ofO (rng1D ds) ρ' := rfl
@[simp] theorem ev_iRng2 (s : SA) (ρ : Env) : iRng2' s ρ = (s ρ).bind fun ds ρ' => ofO (rng2D ds) ρ' := rfl
@[simp] theorem ev_asg (g : SG) (s : SE) (ρ : Env) : sAsg g s ρ = (s ρ).bind fun d ρ' => (g d ρ').bind fun _ ρ'' => .ok .nx ρ'' := rfl
@[simp] theorem ev_expr (s : SE) (ρ : Env) : sExpr s ρ = (s ρ).bind fun _ ρ' => .ok .nx ρ' := rfl
@[simp] theorem ev_ret (s : SE) (ρ : Env) : sRet s ρ = (s ρ).bind fun d ρ' => .ok (.rt d) ρ' := rfl
@[simp] theorem ev_nx (ρ : Env) : sNx ρ = .ok .nx ρ := rfl
@[simp] theorem ev_seq (a b : SS) (ρ : Env) : sSeq a b ρ = (a ρ).bind fun f ρ' => match f with | .nx => b ρ' | f => .ok f ρ' := rfl
@[simp] theorem ev_ifS (t : ST) (a b : SS) (ρ : Env) : sIfS t a b ρ = (t ρ).bind fun k ρ' => match k with | true => a ρ' | false => b ρ' := rfl
@[simp] theorem ev_tT1 (ρ : Env) : tT1 ρ = .ok true ρ := rfl
@[simp] theorem ev_gTup (n : Nat) (gs : SGs) (d : D) (ρ : Env) : gTup' n gs d ρ = match d with | .tup ds => if ds.length = n then gs ds ρ else .stuck | .lst ds => if ds.length = n then gs ds ρ else .stuck | .arg ds => if ds.length = n then gs ds ρ else .stuck | _ => .stuck := rfl
@[simp] theorem ev_gN0 (ρ : Env) : gN [] ρ = .ok () ρ := rfl
@[simp] theorem ev_gC (g : SG) (gs : SGs) (d : D) (ds : List D) (ρ : Env) : gC g gs (d :: ds) ρ = (g d ρ).bind fun _ ρ' => gs ds ρ' := rfl
@[simp] theorem ev_callP (n : Nat) (g : List D → FR) (s : SA) (ρ : Env) : sCallP n g s ρ = (s ρ).bind fun ds ρ' => if ds.length = n then endP (g ds) ρ' else .stuck := rfl
@[simp] theorem ev_endP (d : D) (o : List D) (ρ : Env) : endP (.ok d o) ρ = .ok d ρ := rfl
@[simp] theorem ev_endPx (x : Exn) (ρ : Env) : endP (.exc x) ρ = .exc x ρ := rfl
@[simp] theorem ev_endI (i : Nat) (d z : D) (ρ : Env) : endI i (.ok d [z]) ρ = .ok d (put ρ i z) := rfl
@[simp] theorem noX_ok {α : Type} (a : α) (ρ : Env) : noX (.ok a ρ) = .ok a ρ := rfl
@[simp] theorem blsOf_nil : blsOf [] = some [] := rfl
@[simp] theorem blsOf_cons (b : Bool) (ds : List D) : blsOf (.bl b :: ds) = (blsOf ds).map fun r => b :: r := rfl
theorem line_pos {n : Nat} (h : n ≤ 16777216) : n ≤ sizeLine := by
  rw [show sizeLine = 16777216 from by decide]
  exact h

/-! ### loops by their invariants -/
theorem for_inv {I : Env → Prop} {g : SG} {s : SS} : ∀ {ds : List D} {ρ : Env}, (∀ d ∈ ds, ∀ ρ, I ρ → ∃ ρ1 ρ2 f, g d ρ = .ok () ρ1 ∧ s ρ1 = .ok f ρ2 ∧ (f = .nx ∨ f = .ct) ∧ I ρ2) → I ρ → ∃ ρ', forGo g s ds ρ = .ok .nx ρ' ∧ I ρ'
  | [], ρ, _, hi => ⟨ρ, rfl, hi⟩
  | d :: ds, ρ, h, hi => by
    obtain ⟨ρ1, ρ2, f, e1, e2, hf, i2⟩ := h d (List.mem_cons_self) ρ hi
    obtain ⟨ρ', e3, i3⟩ := for_inv (fun d hd => h d (List.mem_cons_of_mem _ hd)) i2
    refine ⟨ρ', ?_, i3⟩
    unfold forGo
    rw [e1, R.bind_ok, e2, R.bind_ok]
    rcases hf with rfl | rfl <;> exact e3
/-- every item kept: what is made of each -/
theorem comp_inv {I : Env → Prop} {P : D → Prop} {vs : List Nat} {g : SG} {t : ST} {s : SE} : ∀ {ds : List D} {ρ : Env}, (∀ d ∈ ds, ∀ ρ, I ρ → ∃ ρ1 ρ2 ρ3 z, g d ρ = .ok () ρ1 ∧ t ρ1 = .ok true ρ2 ∧ s ρ2 = .ok z ρ3 ∧ plainAt ρ3 vs = true ∧ I (wipeE ρ3 vs) ∧ P z) → I ρ →
    ∃ zs ρ', compGo vs g t s ds ρ = .ok zs ρ' ∧ I ρ' ∧ zs.length = ds.length ∧ ∀ z ∈ zs, P z
  | [], ρ, _, hi => ⟨[], ρ, rfl, hi, rfl, fun _ h => nomatch h⟩
  | d :: ds, ρ, h, hi => by
    obtain ⟨ρ1, ρ2, ρ3, z, e1, e2, e3, hp, i3, pz⟩ := h d (List.mem_cons_self) ρ hi
    obtain ⟨zs, ρ', e4, i4, hl, pzs⟩ := comp_inv (fun d hd => h d (List.mem_cons_of_mem _ hd)) i3
    refine ⟨z :: zs, ρ', ?_, i4, by simp [hl], fun y hy => ?_⟩
    · unfold compGo
      rw [e1, R.bind_ok, e2, R.bind_ok]
      show (s ρ2).bind _ = _
      rw [e3, R.bind_ok, if_pos hp, e4, R.bind_ok]
    · rcases List.mem_cons.mp hy with rfl | hy
      · exact pz
      · exact pzs y hy
/-- a comprehension that computes f of each item that p keeps, in an environment that stays -/
theorem comp_map {vs : List Nat} {g : SG} {t : ST} {s : SE} {f : D → D} {p : D → Bool} {ρ : Env} : ∀ {ds : List D}, (∀ d ∈ ds, ∃ ρ1 ρ2, g d ρ = .ok () ρ1 ∧ t ρ1 = .ok (p d) ρ2 ∧ plainAt ρ2 vs = true ∧ wipeE ρ2 vs = ρ ∧ (p d = true → ∃ ρ3, s ρ2 = .ok (f d) ρ3 ∧ plainAt ρ3 vs = true ∧ wipeE ρ3 vs = ρ)) →
    compGo vs g t s ds ρ = .ok ((ds.filter p).map f) ρ
  | [], _ => rfl
  | d :: ds, h => by
    obtain ⟨ρ1, ρ2, e1, e2, h1, h2, h3⟩ := h d (List.mem_cons_self)
    have ih := comp_map (fun d hd => h d (List.mem_cons_of_mem _ hd))
    unfold compGo
    rw [e1, R.bind_ok, e2, R.bind_ok]
    cases hp : p d with
    | false =>
      show (if plainAt ρ2 vs = true then _ else _) = _
      rw [if_pos h1, h2, ih, List.filter_cons_of_neg (by simp [hp])]
    | true =>
      obtain ⟨ρ3, e3, h4, h5⟩ := h3 hp
      show (s ρ2).bind _ = _
      rw [e3, R.bind_ok, if_pos h4, h5, ih, R.bind_ok, List.filter_cons_of_pos (by simp [hp]), List.map_cons]
end Dt

set_option Elab.async false
set_option linter.all false
set_option maxRecDepth 100000
set_option maxHeartbeats 4000000
/-! The set of a list of texts, however many: its length. -/
namespace Dt
open PySem PySem.Spec PyProof.Rows
/-- one more text -/
def kindS (σ : List Str) (x : Str) : List Str := if x ∈ σ then σ else σ ++ [x]
/-- the unlike texts, in the order of their first places -/
def kinds (xs : List Str) : List Str := xs.foldl kindS []
theorem kinds_snoc (xs : List Str) (x : Str) : kinds (xs ++ [x]) = kindS (kinds xs) x := by
  unfold kinds
  rw [List.foldl_append]
  rfl
theorem mem_kindS {σ : List Str} {x y : Str} : y ∈ kindS σ x ↔ y ∈ σ ∨ y = x := by
  unfold kindS
  split
  · rename_i h
    exact ⟨.inl, fun q => q.elim id fun e => by rw [e]; exact h⟩
  · rw [List.mem_append, List.mem_singleton]
theorem len_kindS (σ : List Str) (x : Str) : (kindS σ x).length = if x ∈ σ then σ.length else σ.length + 1 := by
  unfold kindS
  split <;> simp
theorem kinds_len_go : ∀ (xs σ : List Str), (xs.foldl kindS σ).length ≤ σ.length + xs.length
  | [], σ => Nat.le_refl _
  | x :: xs, σ => by
    have h := kinds_len_go xs (kindS σ x)
    rw [len_kindS] at h
    rw [List.foldl_cons, List.length_cons]
    split at h <;> omega
theorem kinds_len (xs : List Str) : (kinds xs).length ≤ xs.length := by
  have := kinds_len_go xs []
  simpa [kinds] using this
theorem take_snoc {xs : List Str} {i : Nat} (h : i < xs.length) : xs.take (i + 1) = xs.take i ++ [xs.getD i Str.empty] := by
  rw [List.take_succ, List.getD_eq_getElem?_getD, List.getElem?_eq_getElem h]
  rfl
def seen (xs : List Str) (i : Nat) : Str → Bool := fun k => decide (k ∈ kinds (xs.take i))
abbrev SeenAt (prog : Program) (w : World) (S : Addr) (xs : List Str) (i : Nat) (h : Heap) : Prop := h.SetOf (PySem.strKind prog w) S (seen xs i) (kinds (xs.take i)).length
section
variable {prog : Program} {w : World} {A : Around} {R : Result → Shared → Prop} {I : Addr} {fp wr : List Addr} {G : Array GenState → Array GenState → Prop} {n : Nat} {P : Nat → Value → Prop} {St : Nat → Shared → Prop}
theorem loop_texts (W : WalksS prog w A.in1 I fp wr G n P St) (S : Addr) (away : S ∉ fp) (xs : List Str) (len : xs.length = n) (room : n + 1 < scanBound) (val : ∀ i v, P i v → ∃ t, v = .str (xs.getD i Str.empty) t)
    : ∀ (k i : Nat) (s : Shared), n - i = k → i ≤ n → St i s → SeenAt prog w S xs i s.heap →
      (∀ t, Moved (S :: wr) G s t → SeenAt prog w S xs n t.heap → R (.ok (.ret .none)) t) → codeAny (model prog w) A (.builtin "set.update.loop" ⟨[.ref S, .ref I], []⟩) R s := by
  have notW : S ∉ wr := fun q => away (W.sub _ q)
  have wide : ∀ b ∈ wr, b ∈ S :: wr := fun b q => .tail _ q
  have keep : ∀ {i : Nat} {s t : Shared}, Moved wr G s t → SeenAt prog w S xs i s.heap → SeenAt prog w S xs i t.heap := fun m ⟨o, es, ep, tb, ho, more⟩ => ⟨o, es, ep, tb, m.heap S _ notW ho, more⟩
  intro k
  induction k with
  | zero =>
    intro i s hk le st hS fin
    obtain rfl : i = n := by omega
    refine codeAny_builtin F.entry_set_update_loop (by rw [Around.under_plainId F.plain_set_update_loop _]; exact (show wpAny _ A.in1 (pyNext (.ref I) >>= _) _ _ s from wpAny_bind (W.done s _ _ st fun t m => (show wpAny _ A.in1 (ret Value.none) _ _ t from wpAny_pure (fin t (m.mono wide) (keep m hS)))))) 
  | succ k ih =>
    intro i s hk le st hS fin
    have lt : i < n := by omega
    refine codeAny_builtin F.entry_set_update_loop ?_; rw [Around.under_plainId F.plain_set_update_loop _]
    refine (show wpAny _ A.in1 (pyNext (.ref I) >>= _) _ _ s from wpAny_bind (W.item i s _ _ lt st fun v t hv st' m => ?_))
    obtain ⟨tk, rfl⟩ := val i v hv
    have hS' := keep m hS
    refine (show wpAny _ A.in1 (holding [Value.str (xs.getD i Str.empty) tk] (setAdd S (.str (xs.getD i Str.empty) tk)) >>= _) _ _ t from wpAny_bind (wpAny_holding ?_))
    unfold setAdd
    have space : (kinds (xs.take i)).length + 1 < scanBound := by have := kinds_len (xs.take i); rw [List.length_take] at this; omega
    refine wpAny_holding (wpAny_bind ((PySem.strKind prog w).pyHash (k := xs.getD i Str.empty) (strKind_is _ _ _ _) ?_))
    refine wpAny_setAddHashed_of (knd := PySem.strKind prog w) (s := { t with toks := t.toks + 1 }) (strKind_is _ _ _ _) rfl hS' space fun h1 only hS2 => ?_
    have hS3 : SeenAt prog w S xs (i + 1) h1 := SetOf_congr hS2 (fun y => by
      unfold seen
      rw [take_snoc (by omega), kinds_snoc, Bool.eq_iff_iff, Bool.or_eq_true, decide_eq_true_iff, decide_eq_true_iff, decide_eq_true_iff, mem_kindS]) (by
      rw [take_snoc (by omega), kinds_snoc, len_kindS]
      simp [seen])
    have rest : ∀ b, b ≠ S → ∀ o, t.heap.get? b = some o → h1.get? b = some o := fun b q o e => by rw [only.2 b q]; exact e
    exact wpAny_pure ⟨plainId_quiet F.plain_set_update_loop _, ih (i + 1) _ (by omega) lt (W.frame _ t _ _ st' (Nat.le_succ _) fun b q o e => rest b (fun x => away (x ▸ q)) o e) hS3 fun u m2 hS4 =>
      fin u (Moved.trans W.gtrans ((m.mono wide).then_heap (Nat.le_succ _) fun b o q e => rest b (fun x => q (x ▸ .head _)) o e) m2) hS4⟩
end
section
variable {prog : Program} {w : World} {A : Around} {E : Value → Shared → Prop} {s : Shared}
abbrev bare (led : Bool) : Obj := { cls := .type "set", dict := none, data := .set #[] 0 (.fresh 0 0 led) }
abbrev walker (l : Addr) : Obj := { cls := .type "list_iterator", data := .fields #[.ref l, .int 0 0] }
theorem call_set_texts {l : Addr} {items : Array Value} {xs : List Str} {Q : Value → Shared → Prop} (hh : A.handled = none) (hl : s.heap.IsList l items) (txt : StrsAre items.toList xs) (len : xs.length = items.size) (room : items.size + 1 < scanBound)
    (fin : ∀ (h1 : Heap) (tk : Nat), SeenAt prog w s.heap.objs.size xs items.size h1 → (∀ b o, b < s.heap.objs.size → s.heap.get? b = some o → h1.get? b = some o) → Q (.ref s.heap.objs.size) { s with heap := h1, toks := tk }) :
    wpAny (model prog w) A (call (.type "set") [.ref l]) Q E s := by
  obtain ⟨c, tl, mro⟩ := F.called_set.mro
  have k1 := F.called_set.made; have k2 := F.called_set.sub
  refine wpAny_call (codeAny_of_tree (show wpAny _ _ (callAny (.type "set") _) _ _ _ from wpAny_pure ⟨Code.quiet_builtin _ (by decide +kernel), codeAny_builtin F.entry_type_call ?_⟩))
  have k0 := Around.under_plain (A := A) (weight_type_call_type "set" [.ref l] []) rfl; rw [k0]
  have k3 := F.called_set.notType; have k4 := F.called_set.canCreate; have k5 := F.typeCall_set_1 (.ref l)
  repeat any_goals first | assumption | wp_step
  refine codeAny_mono (code_set_new_1 (.ref l) (E := E) (Q₁ := fun v t => ∃ led : Bool, v = .ref s.heap.objs.size ∧ t = { s with heap := s.heap.push (bare led) }) fun led => ⟨led, rfl, rfl⟩) fun r t hr => ?_
  match r, hr with
  | .error e, hr => exact hr
  | .ok (.ret v), hr =>
    obtain ⟨led, rfl, rfl⟩ := hr
    have at1 : (s.heap.push (bare led)).get? s.heap.objs.size = some (bare led) := Heap.get?_push_size _ rfl
    have ty : Shared.TypeIs { s with heap := s.heap.push (bare led) } (.ref s.heap.objs.size) "set" := ⟨_, at1, rfl⟩
    have k6 := F.called_set.init.lookup; have k7 := F.called_set.init.bind (.ref s.heap.objs.size)
    repeat any_goals first | assumption | wp_step
    refine codeAny_mono (codeAny_call_builtin (R := wants (fun r t => r = .none ∧ ∃ h1 tk, t = { s with heap := h1, toks := tk } ∧ SeenAt prog w s.heap.objs.size xs items.size h1 ∧ (∀ b o, b < s.heap.objs.size → s.heap.get? b = some o → h1.get? b = some o)) E) F.called_set.init.plain F.entry_set_init (check_set_init_1 ty ?_)) fun r t hr => ?_
    · obtain ⟨⟨ocls, odict, odata, oslots⟩, at2, c2, nl, d2⟩ := hl
      obtain rfl : ocls = _ := c2
      obtain rfl : odata = _ := d2
      have is1 : s.heap.IsList l items := ⟨_, at2, rfl, nl, rfl⟩
      have at3 := Heap.get?_push_of_some (bare led) at2
      have is2 : (s.heap.push (bare led)).IsList l items := ⟨_, at3, rfl, nl, rfl⟩
      have k8 := F.sub_list_set; have k9 := F.sub_list_frozenset
      have kA : (Value.type "list" == Value.type "dict") = false := by decide
      unfold Builtin.«set.__init__» noKeywords Builtin.Frozenset.updateFrom
      generalize hPI : pyIter = PI
      wp_walk
      subst hPI
      refine wpAny_pyIter_list is2 (wpAny_bind (wpAny_runValue ?_))
      have lt : l < s.heap.objs.size := Heap.lt_size at2
      have sz : (s.heap.push (bare led)).objs.size = s.heap.objs.size + 1 := Heap.size_push _ _
      have q1 : A.in1.in1.in1.handled = none := by simp [hh]
      have q2 : l ≠ (s.heap.push (bare led)).objs.size := by rw [sz]; exact Nat.ne_of_lt (Nat.lt_succ_of_lt lt)
      have q3 : s.heap.objs.size ∉ [(s.heap.push (bare led)).objs.size, l] := fun h => by
        rcases List.mem_cons.mp h with e | h
        · rw [sz] at e; exact Nat.ne_of_lt (Nat.lt_succ_self _) e
        · rw [← List.mem_singleton.mp h] at lt; exact Nat.lt_irrefl _ lt
      have at4 : ((s.heap.push (bare led)).push (walker l)).get? s.heap.objs.size = some (bare led) := Heap.get?_push_of_some _ at1
      refine loop_texts ((Walks.list q1 _ l q2 items).toS) s.heap.objs.size q3 xs len room (fun i v hv => SS.strs_at txt i v (by rw [Array.getElem?_toList]; exact hv)) (items.size - 0) 0 _ (by omega) (Nat.zero_le _) ⟨⟨_, Heap.get?_push_size _ rfl, rfl, rfl⟩, is2.push _⟩ ?_ ?_
      · exact SetOf_congr ((setObjOf_fresh (knd := PySem.strKind prog w) led).setOf at4 (by unfold scanBound; omega)) (fun _ => rfl) rfl
      · intro ⟨h1, g1, d1, t1, o1⟩ m hS
        obtain rfl : g1 = s.gens := m.gens
        obtain rfl : d1 = s.drawn := m.drawn
        obtain rfl : o1 = s.os := m.os
        refine (show wpAny _ _ _ _ _ _ from wpAny_pure (show wpAny _ _ (ret Value.none) _ _ _ from wpAny_pure ⟨rfl, h1, t1, rfl, hS, fun b o hb e => ?_⟩))
        refine m.heap b o (fun h => ?_) (Heap.get?_push_of_some _ (Heap.get?_push_of_some _ e))
        rcases List.mem_cons.mp h with q | q
        · exact Nat.ne_of_lt hb q
        · rw [List.mem_singleton.mp q, sz] at hb; exact Nat.lt_irrefl _ (Nat.lt_of_succ_lt hb)
    · match r, hr with
      | .error e, hr => exact hr
      | .ok (.ret v), hr =>
        obtain ⟨rfl, h1, tk, rfl, hS, old⟩ := hr
        repeat any_goals first | assumption | wp_step
        exact fin _ _ hS old
end
end Dt

set_option Elab.async false
set_option linter.all false
set_option maxRecDepth 100000
set_option maxHeartbeats 4000000
/-! len(set(a)), a a list of texts. -/
namespace Dt
open PySem PySem.Spec PyProof.Rows L2
section
variable {X : Cx} {W : WX} {ex : String → Addr} {p p2 q pos : Pos}
def tLenTx (K : PySem.W.Frag) (ta : TE) : TE := fun σ H Q => ta σ H fun x H1 => ∃ (l : Addr) (xs : List Str), x = V.ref l ∧ SqL K H1 l (xs.map V.str) ∧ xs.length + 1 < scanBound ∧ Q (V.int ((kinds xs).length : Nat)) H1
theorem pe_lenTx {a : Expr} {ta : TE} (calm : X.calm = true) (g1 : Gl X "len") (m1 : X.mg "len" = none) (g2 : Gl X "set") (m2 : X.mg "set" = none) (ha : PE X a ta) (ns : starEach [a] X.env = (false, eval a X.env) :: starEach [] X.env := by rfl) :
    PE X (.Call (.Name "len" p) [.Call (.Name "set" p2) [a] [] q] [] pos) (tLenTx X.K ta) := by
  constructor; intro pins s σ H Q I h
  refine Call_ (ld_blt I g1 m1 boot_len (callWith_builtin1 (args_cons (Call_ (ld_blt I g2 m2 boot_set (callWith_type1 (args_cons (thn (ha.run pins s σ H _ I h) fun v t ⟨x, H1, I1, r1, l, xs, e1, hq, room, q1⟩ => args_nil ?_) ns) ns rfl))) rfl) rfl rfl))
  subst e1; cases r1
  obtain ⟨its, r, pl, hz⟩ := I1.list hq
  have sz : xs.length = its.toArray.size := by rw [List.size_toArray, ← r.length, List.length_map]
  refine call_set_texts (I1.ok.hd calm) pl.isList (by simpa using strsAre_of r) sz (by omega) fun h1 tk hS old => args_nil ?_
  have small := kinds_len (xs.take its.toArray.size)
  obtain ⟨o, es, ep, tb, at1, c1, d1, _, _, _, ft, cnt⟩ := hS
  rw [← sz, List.take_length] at cnt small
  have I2 : Inv X pins σ H1 { t with heap := h1, toks := tk } := I1.kept fun b o e => old b o (Heap.lt_size e) e
  exact call_len_set at1 c1 d1 ft (by rw [cnt]; unfold scanBound at room; omega) ⟨.int (kinds xs).length, H1, I2.tok _, ⟨_, by rw [cnt]⟩, q1⟩
/-- the texts of a list of texts -/
def textsD : List D → Option (List Str)
  | [] => some []
  | .str s :: ds => (textsD ds).map fun r => s :: r
  | _ :: _ => none
theorem textsD_rps {K : PySem.W.Frag} {F : Hp} : ∀ {vs : List V} {ds : List D} {xs : List Str}, Rps K F vs ds → textsD ds = some xs → vs = xs.map V.str
  | _, _, _, .nil, h => by cases h; rfl
  | _, .str s :: ds, xs, .cons a r, h => by
    unfold textsD at h
    cases e : textsD ds with
    | none => rw [e] at h; cases h
    | some ys =>
      rw [e] at h
      cases h
      cases a
      rw [textsD_rps r e]
      rfl
def lenSetD : D → Option D
  | .lst ds => (textsD ds).bind fun xs => if xs.length + 1 < scanBound then some (.int (kinds xs).length) else none
  | _ => none
def sLenSet (s : SE) : SE := fun ρ => (s ρ).bind fun d ρ' => ofO (lenSetD d) ρ'
theorem d_lenSet {a : Expr} {sa : SE} (calm : X.calm = true) (g1 : Gl X "len") (m1 : X.mg "len" = none) (g2 : Gl X "set") (m2 : X.mg "set" = none) (ha : DE (GK X ex) X W a sa) (ns : starEach [a] X.env = (false, eval a X.env) :: starEach [] X.env := by rfl) :
    DE (GK X ex) X W (.Call (.Name "len" p) [.Call (.Name "set" p2) [a] [] q] [] pos) (sLenSet sa) := wkE (pe_lenTx calm g1 m1 g2 m2 ha ns) fun σ H Q ⟨ρ, F, Rv, io, rel, k⟩ => by
  refine ⟨ρ, F, Rv, io, rel, ?_⟩
  unfold sLenSet at k
  cases e : sa ρ with
  | stuck => rw [e] at k; exact k.elim
  | exc x ρ' => rw [e] at k; exact k
  | ok d ρ' =>
    rw [e, R.bind_ok] at k
    intro v H' F' le rel' rp
    cases rp with
    | lst t r =>
      cases e2 : textsD _ with
      | none => rw [lenSetD, e2] at k; exact k.elim
      | some xs =>
        rw [lenSetD, e2, Option.bind_some] at k
        by_cases room : xs.length + 1 < scanBound
        · rw [if_pos room] at k
          have hv := textsD_rps r e2
          subst hv
          exact ⟨_, xs, rfl, SqL.of (rel'.fH _ _ t), room, k _ H' F' le rel' (.int _)⟩
        · rw [if_neg room] at k
          exact k.elim
    | _ => exact k.elim
end
end Dt

set_option Elab.async false
set_option linter.all false
set_option maxRecDepth 100000
set_option maxHeartbeats 4000000
/-! Dict comprehensions. -/
namespace Dt
open PySem PySem.Spec PyProof.Rows L2
def dcompGo (vs : List Nat) (g : SG) (t : ST) (sk s : SE) : List D → List Key × List D → Env → R (List Key × List D)
  | [], acc, ρ => .ok acc ρ
  | d :: ds, acc, ρ => (g d ρ).bind fun _ ρ1 => (t ρ1).bind fun k ρ2 => match k with
    | true => (sk ρ2).bind fun kd ρk => (s ρk).bind fun z ρ3 => match keyOf kd with
      | none => .stuck
      | some k => if plainAt ρ3 vs = true then dcompGo vs g t sk s ds (dPut acc.1 acc.2 k z) (wipeE ρ3 vs) else .stuck
    | false => if plainAt ρ2 vs = true then dcompGo vs g t sk s ds acc (wipeE ρ2 vs) else .stuck
def sDComp (vs : List Nat) (it : SA) (g : SG) (t : ST) (sk s : SE) : SE := fun ρ => (it ρ).bind fun ds ρ1 =>
  if plainAt ρ1 vs = true ∧ ds.length ≤ sizeLine then (noX (dcompGo vs g t sk s ds ([], []) (wipeE ρ1 vs))).bind fun zs ρ2 => .ok (.dct zs.1 zs.2) (backE ρ1 ρ2 vs) else .stuck
section
variable {ex : String → Addr} {X : Cx} {W : WX} {tg : Expr} {pos : Pos}
theorem dcomp_core {G : Gx} {σ : L2.St} {H : Hp} {Q : VK} {it : SA} {g : SG} {t : ST} {sk s : SE} {js vs : List Nat} (hjs : js.all (fun j => vs.contains j) = true) (h : tF G W (sDComp vs it g t sk s) σ H Q) :
    tDc (tI G W it) (tG G W0 js g) (tT G W0 t) (tE G W0 sk) (tE G W0 s) vs σ H Q := by
    obtain ⟨ρ, F, Rv, io, rel, q⟩ := h
    refine ⟨ρ, F, Rv, io, rel, ?_⟩
    unfold sDComp at q
    cases e : it ρ with
    | stuck => rw [e] at q; exact q.elim
    | exc x ρ' => rw [e] at q; exact q
    | ok ds ρ1 =>
      rw [e, R.bind_ok] at q
      intro J H1 F1 le1 rel1 J1 Dl hD
      by_cases hp : plainAt ρ1 vs = true ∧ ds.length ≤ sizeLine
      case neg => rw [if_neg hp] at q; exact q.elim
      rw [if_pos hp] at q
      obtain ⟨hpl, hz⟩ := hp
      cases e2 : dcompGo vs g t sk s ds ([], []) (wipeE ρ1 vs) with
      | stuck => rw [e2] at q; exact q.elim
      | exc x ρ' => rw [e2] at q; exact q.elim
      | ok zs ρe =>
        rw [e2] at q
        have nR : Rv Dl = none := rel1.rH.noneOf hD
        refine ⟨fun i m H => m = ds.length - i ∧ i ≤ ds.length ∧ ∃ (ρi : Env) (Fi : Hp) (acc : List (Key × V)) (dn : List D), FLe F1 Fi ∧ Rel G.K io (upd Rv Dl (.dK acc)) ρi Fi (wipe σ vs) H ∧ acc.length ≤ i ∧ Rps G.K Fi (acc.map (·.2)) dn ∧
          dcompGo vs g t sk s (ds.drop i) (acc.map (·.1), dn) ρi = .ok zs ρe, ⟨ds.length, rfl.trans (Nat.sub_zero _).symm, Nat.zero_le _, wipeE ρ1 vs, F1, [], [], FLe.refl _, (rel1.wiped hpl).resAdd hD _, Nat.le_refl _, .nil, e2⟩, ?_⟩
        rintro i m H ⟨rfl, hi, ρi, Fi, acc, dn, lei, reli, hacc, racc, hgo⟩
        by_cases hlt : i < ds.length
        · obtain ⟨d, hd, hdr⟩ := drop_at hlt
          rw [hdr] at hgo
          unfold dcompGo at hgo
          refine .inr ⟨J1.go i Fi H lei reli.fH hlt, fun H' => ∃ (ρ2 : Env) (F2 : Hp) (acc2 : List (Key × V)) (dn2 : List D), FLe F1 F2 ∧ Rel G.K io (upd Rv Dl (.dK acc2)) ρ2 F2 (wipe σ vs) H' ∧ acc2.length ≤ i + 1 ∧ Rps G.K F2 (acc2.map (·.2)) dn2 ∧
              dcompGo vs g t sk s (ds.drop (i + 1)) (acc2.map (·.1), dn2) ρ2 = .ok zs ρe, fun H' z => ⟨ds.length - (i + 1), by omega, rfl, hlt, z⟩, fun xv H' y => ?_⟩
          obtain ⟨F2, nw, rp⟩ := J1.yld i Fi H H' xv d lei reli.fH hd y
          have rel2 := reli.after nw
          refine ⟨d, ρi, F2, _, io, rel2, rp, ?_⟩
          cases e3 : g d ρi with
          | stuck => rw [e3] at hgo; cases hgo
          | exc x ρ' => rw [e3] at hgo; cases hgo
          | ok u ρ3 =>
            rw [e3, R.bind_ok] at hgo
            intro σ3 H3 F3 le3 rel3 hj3
            have hjs' : ∀ j, j ∉ vs → σ3[j]? = (wipe σ vs)[j]? := fun j hj => hj3.2 j fun z => hj (by
              have w := List.all_eq_true.mp hjs j z
              simpa using w)
            have hl3 : σ3.length = σ.length := hj3.1.trans (wipe_length σ vs)
            have hw := wipe_same hl3 hjs'
            refine ⟨hw, ρ3, F3, _, io, rel3, ?_⟩
            cases e4 : t ρ3 with
            | stuck => rw [e4] at hgo; cases hgo
            | exc x ρ' => rw [e4] at hgo; cases hgo
            | ok k ρ4 =>
              rw [e4, R.bind_ok] at hgo
              intro H4 F4 le4 rel4
              cases k with
              | false =>
                refine iteF ?_
                have hgo : (if plainAt ρ4 vs = true then dcompGo vs g t sk s (ds.drop (i + 1)) (acc.map (·.1), dn) (wipeE ρ4 vs) else .stuck) = R.ok zs ρe := hgo
                by_cases hp4 : plainAt ρ4 vs = true
                · rw [if_pos hp4] at hgo
                  have le := (nw.f.trans le3).trans le4
                  refine ⟨wipeE ρ4 vs, F4, acc, dn, lei.trans le, ?_, Nat.le_succ_of_le hacc, racc.mono le, hgo⟩
                  have r := rel4.wiped hp4
                  rw [hw] at r
                  exact r
                · rw [if_neg hp4] at hgo; cases hgo
              | true =>
                refine iteT ⟨ρ4, F4, _, io, rel4, ?_⟩
                have hgo : ((sk ρ4).bind fun kd ρk => (s ρk).bind fun z ρ3 => match keyOf kd with | none => .stuck | some k => if plainAt ρ3 vs = true then dcompGo vs g t sk s (ds.drop (i + 1)) (dPut (acc.map (·.1)) dn k z) (wipeE ρ3 vs) else .stuck) = R.ok zs ρe := hgo
                cases ek : sk ρ4 with
                | stuck => rw [ek] at hgo; cases hgo
                | exc x ρ' => rw [ek] at hgo; cases hgo
                | ok kd ρk =>
                rw [ek, R.bind_ok] at hgo
                intro kv Hk Fk lek relk rpk
                refine ⟨ρk, Fk, _, io, relk, ?_⟩
                cases e5 : s ρk with
                | stuck => rw [e5] at hgo; cases hgo
                | exc x ρ' => rw [e5] at hgo; cases hgo
                | ok z ρ5 =>
                  rw [e5, R.bind_ok] at hgo
                  intro yv H5 F5 le5 rel5 rp5
                  cases e6 : keyOf kd with
                  | none => rw [e6] at hgo; cases hgo
                  | some k =>
                    rw [e6] at hgo
                    have hgo : (if plainAt ρ5 vs = true then dcompGo vs g t sk s (ds.drop (i + 1)) (dPut (acc.map (·.1)) dn k z) (wipeE ρ5 vs) else .stuck) = R.ok zs ρe := hgo
                    by_cases hp5 : plainAt ρ5 vs = true
                    · rw [if_pos hp5] at hgo
                      have le := (((nw.f.trans le3).trans le4).trans lek).trans le5
                      obtain ⟨k1, k2⟩ := dPut_put (k := k) rp5 (racc.mono le)
                      refine ⟨acc, k, keyOf_vw (H := Fk) (.inl rpk) e6, rel5.rH Dl _ upd_same, Nat.lt_of_le_of_lt hacc (Nat.lt_of_lt_of_le hlt hz), wipeE ρ5 vs, F5, putK acc k yv, (dPut (acc.map (·.1)) dn k z).2, lei.trans le, ?_, Nat.le_trans (length_putK acc k yv) (Nat.succ_le_succ hacc), k2, by rw [k1]; exact hgo⟩
                      have r := rel5.wiped hp5
                      rw [hw] at r
                      exact r.resPut
                    · rw [if_neg hp5] at hgo; cases hgo
        · have hi2 : i = ds.length := by omega
          subst hi2
          rw [List.drop_eq_nil_of_le (Nat.le_refl _)] at hgo
          unfold dcompGo at hgo
          cases hgo
          refine .inl ⟨J1.stop Fi H lei reli.fH, ?_⟩
          obtain ⟨relD, n1, n2, lo⟩ := reli.resDrop nR
          have relB := rel1.back (vs := vs) relD lei hpl
          refine q Dl H Fi (le1.trans lei) relB ⟨n1, nR, _, n2, acc, rfl, rfl, ?_⟩ fun i c d e1 e2 e3 => ?_
          · exact racc
          · have hlen : ρ1.length = ρe.length := by rw [rel1.len, relD.len, wipe_length]
            rw [(backE_get hlen vs).2] at e1
            by_cases hi : i ∈ vs
            · rw [if_pos hi] at e1
              rcases plain_at hpl hi e1 with z | ⟨_, z⟩ <;> (subst z; cases e2)
            · rw [if_neg hi] at e1
              exact lo i c d e1 e2 (by rw [wipe_get, if_neg hi]; exact e3)
theorem d_dcompF {kx vx iter : Expr} {ifs : List Expr} {scope : Scope} {own : List (Str × Nat)} {it : SA} {g : SG} {t : ST} {sk s : SE} {js : List Nat} (hu : At X W) (hi : DI (GK X ex) X W tg iter it) (ok : BlkOk X.N X.env.scope scope own)
    (hg : ∀ (s : Shared) (H : Hp) (C : Addr) (cl : List (Str × Addr)) (fp : List Addr), DG (GK X ex) (X.blk s H scope (compEnvC scope cl C X.env) fp) W0 js tg g)
    (ht : ∀ (s : Shared) (H : Hp) (C : Addr) (cl : List (Str × Addr)) (fp : List Addr), PTs (X.blk s H scope (compEnvC scope cl C X.env) fp) ifs (tT (GK X ex) W0 t))
    (hk : ∀ (s' : Shared) (H : Hp) (C : Addr) (cl : List (Str × Addr)) (fp : List Addr), DE (GK X ex) (X.blk s' H scope (compEnvC scope cl C X.env) fp) W0 kx sk)
    (he : ∀ (s' : Shared) (H : Hp) (C : Addr) (cl : List (Str × Addr)) (fp : List Addr), DE (GK X ex) (X.blk s' H scope (compEnvC scope cl C X.env) fp) W0 vx s) (hjs : js.all (fun j => (own.map (·.2)).contains j) = true) (hs : ∀ x, foldedSetIterable iter X.env x = pure x := by intro _; rfl) :
    DF (GK X ex) X W (.DictComp kx vx [⟨tg, iter, ifs, 0⟩] scope pos) (sDComp (own.map (·.2)) it g t sk s) :=
  wkE (pe_dc hu.calm hu.nd hi ok hg ht hk he hs) fun σ H Q h => dcomp_core hjs h
end
end Dt

set_option Elab.async false
set_option linter.all false
set_option maxRecDepth 100000
set_option maxHeartbeats 4000000
/-! tuple(d.items()). -/
namespace Dt
open PySem PySem.Spec PyProof.Rows L2
section
variable {prog : Program} {w : World} {K : Type} [DecidableEq K] {knd : KeyKind prog w K} {A : Around} {E : Value → Shared → Prop} {s : Shared} {r d : Addr} {kvs : List (K × Value)} {ep : Nat}
abbrev tupOf (as : List Addr) : Obj := { cls := .type "tuple", data := .seq (as.map Value.ref).toArray }
theorem new_tuple_items {Q : Value → Shared → Prop} (hh : A.handled = none) (view : s.heap.IsItemsView r d) (at_ : s.heap.DictAt knd d kvs ep) (room : kvs.length ≤ sizeLine)
    (fin : ∀ (h1 : Heap) (tk : Nat) (as : List Addr), (∀ b o, s.heap.get? b = some o → h1.get? b = some o) → as.length = kvs.length → PySem.W.KdxG knd kvs s.heap.objs.size h1 as → Q (.ref h1.objs.size) { s with heap := h1.push (tupOf as), toks := tk }) :
    codeAny (model prog w) A (.call (.builtin "tuple.__new__") ⟨[.type "tuple", .ref r], []⟩) (wants Q E) s := by
  refine codeAny_of_tree (show wpAny _ A.in1 (do checkBuiltinCall "tuple.__new__" ⟨[.type "tuple", .ref r], []⟩; again (.builtin "tuple.__new__" ⟨[.type "tuple", .ref r], []⟩)) _ _ s from wpAny_bind (wpAny_of_eq (F.newCall_tuple_1 _) (wpAny_pure ⟨plainId_quiet F.plain_tuple_new _, codeAny_builtin F.entry_tuple_new ?_⟩)))
  rw [Around.under_plainId F.plain_tuple_new]
  have k1 := sub_tuple_self; have k2 := init_tuple_lookup; have k3 := madeHere_tuple
  have ty : s.TypeIs (.ref r) "dict_items" := view.typeIs
  have q1 : A.in1.handled = none := hh
  wp_walk using wpAny_typeOf ty, PySem.W.kdx_collect (A := A.in1) q1 view at_ room
  intro h1 tk as old len g
  refine (show wpAny _ _ (Builtin.Tuple.tupleExact (as.map Value.ref).toArray >>= fun v => ret v) _ _ _ from ?_)
  unfold Builtin.Tuple.tupleExact
  exact wpAny_bind (wpAny_newObj_type (wpAny_pure (fin h1 tk as old len g)) (by show (as.map Value.ref).toArray.size ≤ sizeLine; rw [List.size_toArray, List.length_map, len]; exact room))
theorem call_tuple_items {Q : Value → Shared → Prop} (hh : A.handled = none) (view : s.heap.IsItemsView r d) (at_ : s.heap.DictAt knd d kvs ep) (room : kvs.length ≤ sizeLine)
    (fin : ∀ (h1 : Heap) (tk : Nat) (as : List Addr), (∀ b o, s.heap.get? b = some o → h1.get? b = some o) → as.length = kvs.length → PySem.W.KdxG knd kvs s.heap.objs.size h1 as → Q (.ref h1.objs.size) { s with heap := h1.push (tupOf as), toks := tk }) :
    wpAny (model prog w) A (call (.type "tuple") [.ref r]) Q E s :=
  callType_codes (Q₁ := fun v t => t.TypeIs v "tuple" ∧ Q v t) F.called_tuple (F.typeCall_tuple_1 _) F.entry_object_init
    (new_tuple_items (A := A.in1) hh view at_ room fun h1 tk as old len g => ⟨⟨_, Heap.get?_push_size _ rfl, rfl⟩, fin h1 tk as old len g⟩) fun v t h => ⟨h.1, F.args_object_init_2 v _, object_init_meets F.called_tuple.init.lookup F.called_tuple.made (by decide) prog w A.in1 _ t ⟨h.1, rfl, h.2⟩⟩
end
section
variable {X : Cx} {pins : List (Addr × Obj)} {σ : L2.St} {H : Hp} {s : Shared}
/-- the objects of the heap h1 at the addresses, as pairs -/
def putZ (h1 : Heap) : Hp → List Addr → List (Key × V) → Hp
  | H, a :: as, p :: kvs => putZ h1 (upd H a (.frz ((h1.get? a).getD (tupO [])) (.tup [kV p.1, p.2]))) as kvs
  | H, _, _ => H
theorem putZ_off {h1 : Heap} {b : Addr} : ∀ (as : List Addr) (kvs : List (Key × V)) (H : Hp), b ∉ as → putZ h1 H as kvs b = H b
  | [], _, _, _ => rfl
  | _ :: _, [], _, _ => rfl
  | a :: as, p :: kvs, H, h => by
    unfold putZ
    rw [putZ_off as kvs _ (fun z => h (.tail _ z)), upd_ne (fun z => h (by rw [z]; exact .head _))]
theorem putZ_at {h1 : Heap} : ∀ (as : List Addr) (kvs : List (Key × V)) (H : Hp), as.length = kvs.length → as.Nodup → Paired (fun (t : Addr) (p : Key × V) => putZ h1 H as kvs t = some (.frz ((h1.get? t).getD (tupO [])) (.tup [kV p.1, p.2]))) as kvs
  | [], [], _, _, _ => .nil
  | [], _ :: _, _, h, _ => by cases h
  | _ :: _, [], _, h, _ => by cases h
  | a :: as, p :: kvs, H, h, hn => by
    obtain ⟨n1, n2⟩ := List.nodup_cons.mp hn
    exact .cons (by unfold putZ; rw [putZ_off as kvs _ n1, upd_same]) (putZ_at as kvs _ (Nat.succ.inj h) n2)
theorem pairs_laid {h1 : Heap} {tk : Nat} {kvs : List (Key × V)} {vs : List (Key × Value)} {as : List Addr} (I : Inv X pins σ H s) (kv : KV kvs vs) (old : ∀ b o, s.heap.get? b = some o → h1.get? b = some o) (len : as.length = vs.length)
    (g : PySem.W.KdxG (mixKind X.prog X.w) vs s.heap.objs.size h1 as) : ∃ H' : Hp, (∀ b o, H b = some o → H' b = some o) ∧ (∀ t ∈ as, H t = none) ∧ Paired (fun (t : Addr) (q : Key × V) => TupC H' t [kV q.1, q.2]) as kvs ∧ Inv X pins σ H' { s with heap := h1, toks := tk } := by
  have unlike : as.Nodup := g.rise.imp fun {a b} lt => Nat.ne_of_lt lt
  have free : ∀ t ∈ as, H t = none := fun t ht => I.hok.fresh (Nat.le_of_lt (g.above t ht))
  have here := putZ_at (h1 := h1) as kvs H (by rw [len, Paired.length kv]) unlike
  have off := fun b (q : b ∉ as) => putZ_off (h1 := h1) (b := b) as kvs H q
  have keep : ∀ b u, H b = some u → putZ h1 H as kvs b = some u := fun b u e => by rw [off b fun q => by rw [free b q] at e; cases e]; exact e
  have bare : ∀ t ∈ as, ((h1.get? t).getD (tupO [])).dict = none := fun t ht => by
    obtain ⟨j, hj⟩ := List.mem_iff_getElem?.mp ht
    obtain ⟨_, _, _, _, _, e⟩ := g.pairs j t hj
    rw [e]; rfl
  have tups : ∀ {us : List Addr} {ws : List (Key × V)}, (∀ u ∈ us, u ∈ as) → Paired (fun (t : Addr) (p : Key × V) => putZ h1 H as kvs t = some (.frz ((h1.get? t).getD (tupO [])) (.tup [kV p.1, p.2]))) us ws → Paired (fun (t : Addr) (q : Key × V) => TupC (putZ h1 H as kvs) t [kV q.1, q.2]) us ws := fun {us ws} m h => by
    induction h with
    | nil => exact .nil
    | cons e t ih => exact .cons ⟨_, bare _ (m _ (.head _)), e⟩ (ih fun u hu => m u (.tail _ hu))
  refine ⟨putZ h1 H as kvs, keep, free, tups (fun _ h => h) here, I.call' (ch := []) rfl ⟨fun b o q _ _ _ => old b o q, fun b o q _ _ _ => ⟨o.slots, old b o q⟩, fun b o q n _ => ?_, fun b o q _ => ⟨o, old b o q⟩, fun b xs q => keep b _ q, fun b o u q => keep b _ q, fun b ps q => ⟨#[], by rw [keep b _ q]; simp⟩⟩ (fun b u q => ?_) I.bare fun b z => by simp at z⟩
  · rw [off b fun z => absurd (Heap.lt_size q) (Nat.not_lt.mpr (Nat.le_of_lt (g.above b z)))]
    exact n
  · by_cases hb : b ∈ as
    · obtain ⟨j, pk, e1, e2, e3⟩ := LiI.paired_ix here hb
      obtain ⟨key, k, x, f1, f2, f3⟩ := g.pairs j b e1
      obtain rfl : HO.frz ((h1.get? b).getD (tupO [])) (.tup [kV pk.1, pk.2]) = u := Option.some.inj (e3.symm.trans q)
      obtain ⟨⟨k', x'⟩, g1, g2, g3⟩ := LiI.paired_get kv e2
      obtain ⟨rfl, rfl⟩ : k = k' ∧ x = x' := Prod.mk.inj (Option.some.inj (f1.symm.trans g1))
      exact ⟨by show h1.get? b = some ((h1.get? b).getD (tupO [])); rw [f3]; rfl, by show 2 ≤ sizeLine; decide, [key, x], .cons (by rw [g2]; exact relV_key (show keyIs k key = true from f2)) (.cons g3 .nil), ⟨_, f3, rfl, _, rfl⟩⟩
    · rw [off b hb] at q
      exact (I.hok b u q).stay (fun d v _ y => old d v y) (fun d y => keep d _ y) fun d xs y => keep d _ y
def rItemsT : V → Hp → VK → Prop := fun x H Q => ∃ (d : Addr) (kvs : List (Key × V)), x = .ref d ∧ Rd H d (.dK kvs) ∧
  ∀ (H1 : Hp) (p : Addr) (o : Obj) (ts : List Addr), (∀ b o, H b = some o → H1 b = some o) → (∀ t ∈ ts, H t = none) → Paired (fun (t : Addr) (q : Key × V) => TupC H1 t [kV q.1, q.2]) ts kvs → H1 p = none → o.dict = none → Q (.ref p) (upd H1 p (.frz o (.tup (ts.map V.ref))))
def tTupItems (te : TE) : TE := fun σ H Q => te σ H fun x H1 => rItemsT x H1 Q
theorem pe_tupItems {e : Expr} {te : TE} {p apos cpos pos : Pos} (calm : X.calm = true) (he : PE X e te) (g1 : Gl X "tuple") (m1 : X.mg "tuple" = none) (base : attributeBase e "items" X.env (eval e X.env) = eval e X.env := by rfl) (line : (apos.endLine == cpos.line) = true := by rfl)
    (hs : starEach [.Call (.Attribute e "items" apos) [] [] cpos] X.env = (false, eval (.Call (.Attribute e "items" apos) [] [] cpos) X.env) :: starEach [] X.env := by rfl) :
    PE X (.Call (.Name "tuple" p) [.Call (.Attribute e "items" apos) [] [] cpos] [] pos) (tTupItems te) := by
  constructor; intro pins s σ H Q I hq
  refine wpAny_Call_Name_kw (ld_blt I g1 m1 boot_tuple (callWith_type1 ?_ hs rfl)); rw [hs]
  refine (show wpAny _ _ (spliced ((false, eval (.Call (.Attribute e "items" apos) [] [] cpos) X.env) :: backTo pos (starEach [] X.env))) _ _ s from Calls.spliced_cons ?_)
  refine wpAny_Call_method (T := "dict") (id := "dict.items") base rfl line F.plainAttrs_dict F.slot_dict_items F.type_dict_items (thn (he.run pins s σ H _ I hq) fun u t ⟨x, H1, I1, rx, d, kvs, ex, hd, q⟩ => ?_)
  subst ex; obtain rfl : u = Value.ref d := rx
  obtain ⟨sz, h0, vs, kv, dd⟩ := hd.ok I1.hok
  obtain ⟨ep, at_⟩ := dd.dictAt
  have lk : kvs.length = vs.length := Paired.length kv
  have I2 : Inv X pins σ H1 { t with heap := t.heap.push { cls := .type "dict_items", data := .fields #[.ref d] } } := I1.kept (t' := t.toks) fun b ob q => Heap.get?_push_of_some _ q
  refine ⟨dd.typeIs, dd.mapOf.noDict, (show wpAny _ _ (callWith cpos (.builtin "dict.items") [.ref d] [] []) _ X.xe t from ?_)⟩
  refine method_meetsIn F.slot_dict_items F.entry_dict_items rfl (PySem.evalArgs_none ⟨rfl, dd.typeIs, F.args_dict_items_1 _, _, meets_dict_items (mixKind X.prog X.w) d h0, ⟨vs, dd⟩, Calls.spliced_nil ?_⟩)
  refine call_tuple_items (knd := mixKind X.prog X.w) (kvs := vs) (ep := ep) (I1.ok.hd calm) ⟨_, Heap.get?_push_size _ rfl, rfl, rfl⟩ (at_.push _) (by omega) fun h1 tk as old len g => ?_
  obtain ⟨H2, k1, k2, k3, J⟩ := pairs_laid (tk := tk) I2 kv old len g
  exact ⟨.ref h1.objs.size, _, J.laid (t' := tk) (o := .frz (tupOf as) (.tup (as.map V.ref))) (fun b o e => Heap.get?_push_of_some _ e) (Nat.le_refl _) (frz_ok (by rw [List.length_map]; omega) (LiI.vals_refs as)), rfl, q H2 _ _ as k1 k2 k3 (J.hok.fresh (Nat.le_refl _)) rfl⟩
end
def pairsD (ks : List Key) (ds : List D) : List D := List.zipWith (fun k d => .tup [keyD k, d]) ks ds
def gTupItems : List D → Option D
  | [.dct ks ds] => some (.tup (pairsD ks ds))
  | _ => none
section
variable {K : PySem.W.Frag} {F H : Hp}
theorem rps_pairs {F' : Hp} (le : FLe F F') : ∀ {ts : List Addr} {kvs : List (Key × V)} {ds : List D}, Paired (fun (t : Addr) (q : Key × V) => TupC F' t [kV q.1, q.2]) ts kvs → Rps K F (kvs.map (·.2)) ds → Rps K F' (ts.map V.ref) (pairsD (kvs.map (·.1)) ds)
  | _, _, _, .nil, .nil => .nil
  | _, _, _, .cons h t, .cons r rs => .cons (.tup h (.cons (rp_key _) (.cons (r.mono le) .nil))) (rps_pairs le t rs)
def newF (F H1 : Hp) (p : Addr) (o : Obj) (ts : List Addr) : Hp := fun b => if b = p then some (.frz o (.tup (ts.map V.ref))) else if b ∈ ts then H1 b else F b
theorem newF_p {H1 : Hp} {p : Addr} {o : Obj} {ts : List Addr} : newF F H1 p o ts p = some (.frz o (.tup (ts.map V.ref))) := if_pos rfl
theorem newF_t {H1 : Hp} {p b : Addr} {o : Obj} {ts : List Addr} (n : b ≠ p) (m : b ∈ ts) : newF F H1 p o ts b = H1 b := by unfold newF; rw [if_neg n, if_pos m]
theorem newF_o {H1 : Hp} {p b : Addr} {o : Obj} {ts : List Addr} (n : b ≠ p) (m : b ∉ ts) : newF F H1 p o ts b = F b := by unfold newF; rw [if_neg n, if_neg m]
theorem paired_on {α β : Type} {P Q : α → β → Prop} : ∀ {us : List α} {ws : List β}, (∀ u ∈ us, ∀ w, P u w → Q u w) → Paired P us ws → Paired Q us ws
  | _, _, _, .nil => .nil
  | _, _, h, .cons e t => .cons (h _ (.head _) _ e) (paired_on (fun u m => h u (.tail _ m)) t)
theorem items_new (fh : FLe F H) {kvs : List (Key × V)} {ds : List D} (r : Rps K F (kvs.map (·.2)) ds) {H1 : Hp} {p : Addr} {ts : List Addr} (keep : ∀ b o, H b = some o → H1 b = some o) (free : ∀ t ∈ ts, H t = none)
    (at_ : Paired (fun (t : Addr) (q : Key × V) => TupC H1 t [kV q.1, q.2]) ts kvs) (np : H1 p = none) {o : Obj} (ho : o.dict = none) :
    ∃ F', New F H F' (upd H1 p (.frz o (.tup (ts.map V.ref)))) ∧ Rp K F' (.ref p) (.tup (pairsD (kvs.map (·.1)) ds)) := by
  have hp : H p = none := by
    cases e : H p with
    | none => rfl
    | some o => rw [keep p o e] at np; cases np
  have nt : p ∉ ts := fun q => by
    obtain ⟨j, y, _, _, _, _, e⟩ := LiI.paired_ix at_ q
    rw [np] at e; cases e
  have le : FLe F (newF F H1 p o ts) := fun a o e => by
    have h := fh a o e
    rw [newF_o (fun q => by rw [q, hp] at h; cases h) (fun q => by rw [free a q] at h; cases h)]
    exact e
  refine ⟨newF F H1 p o ts, ⟨le, fun a o e => ?_, fun a o e => ?_, fun a o e => ?_⟩, .tup ⟨o, ho, newF_p⟩ (rps_pairs le (paired_on (fun u m w e => ?_) at_) r)⟩
  · rw [upd_ne (fun q => by rw [q, hp] at e; cases e)]
    exact keep a o e
  · by_cases n1 : a = p
    · rw [n1, newF_p] at e; rw [n1, upd_same]; exact e
    · rw [upd_ne n1]
      by_cases n2 : a ∈ ts
      · rw [newF_t n1 n2] at e; exact e
      · rw [newF_o n1 n2] at e; exact keep a o (fh a o e)
  · by_cases n1 : a = p
    · exact .inr (by rw [n1]; exact hp)
    · by_cases n2 : a ∈ ts
      · exact .inr (free a n2)
      · rw [newF_o n1 n2] at e; exact .inl e
  · obtain ⟨ob, h1, h2⟩ := e
    exact ⟨ob, h1, by rw [newF_t (fun q : u = p => nt (by rw [← q]; exact m)) m]; exact h2⟩
end
section
variable {G : Gx} {ex : String → Addr} {X : Cx} {W : WX} {p apos cpos pos : Pos}
theorem psem_tupItems : PSem G (r1L rItemsT) gTupItems := fun F H vs ds d Q fh vw e q => by
  unfold gTupItems at e
  split at e
  · cases e
    cases vw with
    | cons h t =>
      cases t
      obtain ⟨a, kvs, rfl, rd, rfl, r⟩ := h.dct fh
      refine ⟨_, rfl, a, kvs, rfl, rd, fun H1 p o ts keep free at_ np ho => ?_⟩
      obtain ⟨F', nw, rp⟩ := items_new fh r keep free at_ np ho
      exact q _ _ F' nw rp
  · cases e
theorem d_tupItems {e : Expr} {se : SO} (calm : X.calm = true) (g1 : Gl X "tuple") (m1 : X.mg "tuple" = none) (he : DO (GK X ex) X W e se) (base : attributeBase e "items" X.env (eval e X.env) = eval e X.env := by rfl) (line : (apos.endLine == cpos.line) = true := by rfl)
    (hs : starEach [.Call (.Attribute e "items" apos) [] [] cpos] X.env = (false, eval (.Call (.Attribute e "items" apos) [] [] cpos) X.env) :: starEach [] X.env := by rfl) :
    DE (GK X ex) X W (.Call (.Name "tuple" p) [.Call (.Attribute e "items" apos) [] [] cpos] [] pos) (sOps gTupItems (b1 se)) :=
  wkE (pe_tupItems calm he g1 m1 base line hs) fun σ H Q h => one_ops (r := rItemsT) psem_tupItems h
end
end Dt

set_option Elab.async false
set_option linter.all false
set_option maxRecDepth 100000
set_option maxHeartbeats 4000000
/-! t[::-1], t a tuple or a list. -/
namespace Dt
open PySem PySem.Spec PyProof.Rows L2
section
variable {prog : Program} {w : World} {A : Around} {E : Value → Shared → Prop} {s : Shared}
theorem back_places (n : Nat) : Builtin.Slice.sliceAdjust none none (-1) (n : Int) = ((n : Int) - 1, -1) ∧ Builtin.Slice.slicePlaces ((n : Int) - 1) (-1) (-1) = n := by
  refine ⟨by unfold Builtin.Slice.sliceAdjust; simp, ?_⟩
  unfold Builtin.Slice.slicePlaces
  have h1 : ¬ (-1 : Int) > 0 := by omega
  simp only [h1, if_false, Int.neg_neg, Int.ediv_one]
  split <;> omega
theorem back_pick (xs : Array Value) : (List.range xs.size).filterMap (fun (k : Nat) => xs[(((xs.size : Int) - 1) + (k : Int) * -1).toNat]?) = xs.toList.reverse := by
  have e : (fun (k : Nat) => xs[(((xs.size : Int) - 1) + (k : Int) * -1).toNat]?) = (fun j => xs[j]?) ∘ fun k => xs.size - 1 - k := funext fun k => by
    show _ = xs[xs.size - 1 - k]?
    rw [show (((xs.size : Int) - 1) + (k : Int) * -1).toNat = xs.size - 1 - k by omega]
  rw [e, ← List.filterMap_map, PySem.W.krv_range, List.filterMap_reverse, PySem.W.krv_all]
theorem applied_back {sl : Addr} {vl vu vs : Value} {n : Nat} {Q : Int × Int × Nat → Shared → Prop} (hs : s.heap.IsSliceOf sl vl vu vs) (pl : IsPart vl none) (pu : IsPart vu none) (ps : IsPart vs (some (-1))) (h : Q ((n : Int) - 1, -1, n) s) :
    wpAny (model prog w) A (Builtin.Slice.sliceApplied (.ref sl) (pure (n : Int))) Q E s := by
  obtain ⟨o, at_, c, d⟩ := id hs
  unfold Builtin.Slice.sliceApplied Builtin.Slice.sliceFields
  refine wpAny_bind (wpAny_bind (wpAny_field at_ d (x := vl) rfl (wpAny_bind (wpAny_field at_ d (x := vu) rfl (wpAny_bind (wpAny_field at_ d (x := vs) rfl (wpAny_pure (wpAny_bind (HT.slicePart_ ps ?_)))))))))
  refine (show wpAny _ _ (if ((-1 : Int) == 0) = true then _ else _) _ _ s from ?_)
  rw [if_neg (by decide)]
  refine wpAny_bind (HT.slicePart_ pl (wpAny_bind (HT.slicePart_ pu (wpAny_bind (wpAny_pure (show wpAny _ _ (match Builtin.Slice.sliceAdjust none none (-1) (n : Int) with | (lo, hi) => pure (lo, (-1 : Int), Builtin.Slice.slicePlaces lo hi (-1))) _ _ s from ?_))))))
  rw [(back_places n).1]
  refine (show wpAny _ _ (pure ((n : Int) - 1, (-1 : Int), Builtin.Slice.slicePlaces ((n : Int) - 1) (-1) (-1))) _ _ s from ?_)
  rw [(back_places n).2]
  exact wpAny_pure h
theorem getItem_tuple_back {t sl : Addr} {items : Array Value} {vl vu vs : Value} {Q : Value → Shared → Prop} (ht : IsTup s.heap t items) (hs : s.heap.IsSliceOf sl vl vu vs) (pl : IsPart vl none) (pu : IsPart vu none) (ps : IsPart vs (some (-1)))
    (h : Q (.ref s.heap.objs.size) { s with heap := s.heap.push { cls := .type "tuple", data := .seq items.toList.reverse.toArray } }) (room : items.size ≤ sizeLine) : wpAny (model prog w) A (getItem (.ref t) (.ref sl)) Q E s := by
  have fits : sizeOk (.seq items.toList.reverse.toArray) := by show items.toList.reverse.toArray.size ≤ sizeLine; simpa using room
  obtain ⟨o, at_, c, d⟩ := id hs
  have ty : s.TypeIs (.ref sl) "slice" := ⟨o, at_, c⟩
  unfold getItem
  try (with_reducible refine wpAny_holding ?_); try refine wpAny_bind (wpAny_pure ?_)
  refine wpAny_bind (wpAny_sequenceKey ht.typeIs (by decide) (wpAny_bind (wpAny_callSpecial?_slot (name := Str.ofString "__getitem__") ht.typeIs PyProof.Rows.slot_tuple_getitem (wpAny_call_entry PyProof.Rows.slot_tuple_getitem ht.typeIs entry_tuple_getitem ?_ (args_tuple_getitem _ _)))))
  refine (show wpAny _ _ (Builtin.Tuple.tupleItemsOf (.ref t) >>= _) _ _ s from wpAny_bind (tupleItemsOf_ ht (wpAny_bind (wpAny_typeOf ty ?_))))
  rw [if_pos (by decide)]
  refine wpAny_bind (applied_back hs pl pu ps ?_)
  refine (show wpAny _ _ (if (((items.size : Int) - 1) == 0 && (-1 : Int) == 1 && items.size == items.size) = true then _ else _) _ _ s from ?_)
  rw [if_neg (by simp), back_pick]
  first
    | exact wpAny_bind (m := Builtin.Tuple.tupleExact _) (wpAny_newObj_type (wpAny_pure ⟨_, rfl, wpAny_pure h⟩) fits)
    | exact wpAny_bind (m := Builtin.Tuple.tupleExact _) (wpAny_newObj_type (wpAny_bind (wpAny_pure (wpAny_pure ⟨_, rfl, wpAny_pure h⟩))) fits)
    | exact wpAny_bind (wpAny_bind (m := Builtin.Tuple.tupleExact _) (wpAny_newObj_type (wpAny_pure (wpAny_pure ⟨_, rfl, wpAny_pure h⟩)) fits))
    | exact wpAny_bind (wpAny_bind (m := Builtin.Tuple.tupleExact _) (wpAny_newObj_type (wpAny_pure ⟨_, rfl, wpAny_pure h⟩) fits))
end
section
variable {X : Cx} {W : WX} {ex : String → Addr} {a : Expr} {pos : Pos} {sa : SO}
def tRevT (K : PySem.W.Frag) (te : TE) : TE := fun σ H Q => te σ H fun x H1 => ∃ (a : Addr) (xs : List V), x = V.ref a ∧ SqT K H1 a xs ∧ NewT H1 xs.reverse Q
theorem pe_revT {e : Expr} {te : TE} {k : Nat} {p1 p2 p3 : Pos} (he : PE X e te) : PE X (.Subscript e (.Slice none none (some (.UnaryOp .USub (.Constant (.int 1) k p1) p2)) p3) pos) (tRevT X.K te) := by
  constructor; intro pins s σ H Q I h
  refine Subscript_ (thn (he.run pins s σ H _ I h) fun v t ⟨x, H1, I1, r1, l, xs, ex, hx, q⟩ => ?_)
  subst ex; cases r1
  have step : PO X (some (.UnaryOp .USub (.Constant (.int 1) k p1) p2)) (tPart (tUn (rU fun i => .int (-i)) (tC (.int 1)))) := po_some (pe_un un_neg pe_int)
  refine wpAny_Slice (thn (po_none.run pins t σ H1 (fun o H2 => o = none ∧ H2 = H1) I1 ⟨rfl, rfl⟩) fun vl t2 ⟨lo, H2, I2, pl, e1, e2⟩ => ?_)
  subst e1 e2
  refine thn (po_none.run pins t2 σ H2 (fun o H3 => o = none ∧ H3 = H2) I2 ⟨rfl, rfl⟩) fun vu t3 ⟨hi, H3, I3, pu, e3, e4⟩ => ?_
  subst e3 e4
  refine thn (step.run pins t3 σ H3 (fun o H4 => o = some (-1) ∧ H4 = H3) I3 ⟨1, rfl, -1, rfl, rfl, rfl⟩) fun vs t4 ⟨st, H4, I4, ps, e5, e6⟩ => ?_
  subst e5 e6
  have I5 : Inv X pins σ H4 { t4 with heap := t4.heap.push { cls := .type "slice", data := .fields #[vl, vu, vs] } } := I4.kept (t' := t4.toks) fun b ob q => Heap.get?_push_of_some _ q
  obtain ⟨its, r, ht, hz⟩ := I5.tuple hx
  have hlen := r.length
  refine (show wpAny (model X.prog X.w) X.A (subscriptTail e (.Slice none none (some (.UnaryOp .USub (.Constant (.int 1) k p1) p2)) p3) (.ref l) (.ref t4.heap.objs.size)) (EP X pins σ Q) X.xe { t4 with heap := t4.heap.push { cls := .type "slice", data := .fields #[vl, vu, vs] } } from
    tail_any (ops := [.ref l, .ref t4.heap.objs.size]) ht.typeIs (PyProof.Rows.slot_tuple_getitem.lookup) (getItem_tuple_back ht (Heap.IsSliceOf.new _ vl vu vs) pl pu ps ?_ (by rw [List.size_toArray]; omega)) (by with_unfolding_all rfl))
  exact made I5 r.reverse (by rw [List.length_reverse]; exact hz) q
theorem pe_either {e : Expr} {t u : TE} (h : PE X e t) (k : PE X e u) : PE X e (fun σ H Q => t σ H Q ∨ u σ H Q) := ⟨fun pins s σ H Q I q => q.elim (h.run pins s σ H Q I) (k.run pins s σ H Q I)⟩
/-- s[::-1] as a value, s a tuple or a list -/
def sRevE (s : SO) : SE := fun ρ => (s ρ).bind fun o ρ' => match o.get ρ' with
  | some (.lst xs) => .ok (.lst xs.reverse) ρ'
  | some (.tup xs) => .ok (.tup xs.reverse) ρ'
  | _ => .stuck
@[simp] theorem ev_revE (s : SO) (ρ : Env) : sRevE s ρ = (s ρ).bind fun o ρ' => match o.get ρ' with | some (.lst xs) => .ok (.lst xs.reverse) ρ' | some (.tup xs) => .ok (.tup xs.reverse) ρ' | _ => .stuck := rfl
theorem d_revE {k : Nat} {p1 p2 p3 : Pos} (ha : DO (GK X ex) X W a sa) : DE (GK X ex) X W (.Subscript a (.Slice none none (some (.UnaryOp .USub (.Constant (.int 1) k p1) p2)) p3) pos) (sRevE sa) :=
  wkE (pe_either (pe_revL ha) (pe_revT ha)) fun σ H Q ⟨ρ, F, Rv, io, rel, q⟩ => by
    unfold sRevE at q
    cases e : sa ρ with
    | stuck => rw [e] at q; exact q.elim
    | exc x ρ' => rw [e] at q; exact .inl ⟨ρ, F, Rv, io, rel, by rw [e]; exact q⟩
    | ok o ρ1 =>
      rw [e, R.bind_ok] at q
      cases e4 : o.get ρ1 with
      | none => rw [e4] at q; exact q.elim
      | some d =>
        rw [e4] at q
        cases d with
        | lst xs =>
          refine .inl ⟨ρ, F, Rv, io, rel, by
            rw [e]
            intro v H1 F1 le1 rel1 ok1
            obtain ⟨a, zs, rfl, t, r⟩ := (rel1.view (G := GK X ex) ok1 e4).lst rel1.fH
            exact ⟨a, zs, rfl, SqL.of t, fun p hp => q _ _ _ (le1.trans (FLe.upd _ (rel1.fH.noneOf hp))) (rel1.after (New.obj rel1.fH hp _)) (.lst upd_same (r.reverse.mono (FLe.upd _ (rel1.fH.noneOf hp))))⟩⟩
        | tup xs =>
          refine .inr ⟨ρ, F, Rv, io, rel, by
            rw [e]
            intro v H1 F1 le1 rel1 ok1
            obtain ⟨a, zs, rfl, t, r⟩ := (rel1.view (G := GK X ex) ok1 e4).sqT rel1.fH
            exact ⟨a, zs, rfl, t, fun p o hp ho => q _ _ _ (le1.trans (FLe.upd _ (rel1.fH.noneOf hp))) (rel1.after (New.obj rel1.fH hp _)) (.tup (.new ho) (r.reverse.mono (FLe.upd _ (rel1.fH.noneOf hp))))⟩⟩
        | _ => exact q.elim
end
end Dt

set_option Elab.async false
set_option linter.all false
set_option maxRecDepth 100000
set_option maxHeartbeats 4000000
/-! dict(t), t a tuple of pairs. -/
namespace Dt
open PySem PySem.Spec PyProof.Rows L2
section
variable {X : Cx} {pins : List (Addr × Obj)} {σ : L2.St} {H : Hp} {s : Shared}
theorem pairsV (I : Inv X pins σ H s) : ∀ {ps : List Addr} {kvs : List (Key × V)}, Paired (fun p kv => SqT X.K H p [kV kv.1, kv.2]) ps kvs →
    ∃ (us : List (Value × Value)) (prs : List (Key × Value)), KV kvs prs ∧ us.length = ps.length ∧ prs.length = ps.length ∧ ∀ (j : Nat) (k v : Value), us[j]? = some (k, v) → ∃ (b : Addr) (key : Key), ps[j]? = some b ∧ IsTup s.heap b #[k, v] ∧ prs[j]? = some (key, v) ∧ keyIs key k = true
  | _, _, .nil => ⟨[], [], .nil, rfl, rfl, fun j k v e => by simp at e⟩
  | _, _, .cons (a := p) (b := kv) h t => by
    obtain ⟨us, prs, r, l1, l2, hp⟩ := pairsV I t
    obtain ⟨its, rv, ht, _⟩ := I.tuple h
    obtain ⟨u, y, ei, ru, ry⟩ := vals2 rv
    subst ei
    refine ⟨(u, y) :: us, (kv.1, y) :: prs, .cons ⟨rfl, ry⟩ r, by simp [l1], by simp [l2], fun j k v e => ?_⟩
    cases j with
    | zero =>
      obtain ⟨rfl, rfl⟩ := Prod.mk.inj (Option.some.inj e)
      exact ⟨p, kv.1, rfl, ht, rfl, kV_is (P := X.prog) (w := X.w) ru⟩
    | succ j =>
      obtain ⟨b, key, e1, e2, e3, e4⟩ := hp j k v (by simpa using e)
      exact ⟨b, key, by simpa using e1, e2, by simpa using e3, e4⟩
def rDictT (K : PySem.W.Frag) : List V → Hp → VK → Prop := fun xs H Q => ∃ (a : Addr) (ps : List Addr) (kvs : List (Key × V)), xs = [V.ref a] ∧ TupC H a (ps.map V.ref) ∧ Paired (fun p kv => SqT K H p [kV kv.1, kv.2]) ps kvs ∧ ∀ p, H p = none → Q (.ref p) (upd H p (.dK (mergeK [] kvs)))
theorem call_dictT (calm : X.calm = true) : CallR X (.type "dict") (rDictT X.K) := by
  intro pins s σ H xs us Q I r ⟨a, ps, kvs, ex, ⟨o, hd, ha⟩, hp, q⟩
  subst ex
  obtain ⟨u, eu, rx⟩ := vals1 r
  subst eu; cases rx
  obtain ⟨at1, hz, its, rv, o2, at2, hc, n, hdat⟩ := I.hok a _ ha
  obtain rfl : o = o2 := Option.some.inj (at1.symm.trans at2)
  obtain rfl := refs_at rv
  rw [List.length_map] at hz
  obtain ⟨vs, prs, rel, l1, l2, hpr⟩ := pairsV I hp
  refine PySem.call_dict_pairs (knd := mixKind X.prog X.w) (kvs := prs) (PairArg.tuple a (ps.map Value.ref).toArray (fun j => ps.getD j 0) vs) (I.ok.hd calm) ⟨⟨o, n, at1, hc, hd, hdat⟩, by simp [l1], fun j k v e => ?_⟩ ⟨by omega, fun j k v e => ?_⟩ (by omega) fun h1 tk hd1 old => ?_
  · obtain ⟨b, key, e1, e2, e3, e4⟩ := hpr j k v e
    exact ⟨by simp [e1], .inl (by show s.heap.IsTuple (ps.getD j 0) #[k, v]; rw [List.getD_eq_getElem?_getD, e1]; exact e2)⟩
  · obtain ⟨b, key, e1, e2, e3, e4⟩ := hpr j k v e
    exact ⟨key, e3, e4⟩
  · have big : (s.heap.objs.size == sysModules) = false := beq_eq_false_iff_ne.mpr (Nat.ne_of_gt I.big)
    have fits : (mergeK [] kvs).length ≤ sizeLine := Nat.le_trans (length_mergeK kvs []) (by rw [List.length_nil, Nat.zero_add, rel.length, l2]; exact hz)
    exact ⟨.ref s.heap.objs.size, _, I.laid (t' := tk) (o := .dK (mergeK [] kvs)) (fun b o e => old b o (by simp) e) (Nat.le_refl _) ⟨fits, big, merged [] prs, KV.merge rel .nil, hd1⟩, rfl, q _ (I.hok.fresh (Nat.le_refl _))⟩
end
/-- the pairs' keys and values, one put behind the other -/
def dictGo : List D → List Key × List D → Option (List Key × List D)
  | [], acc => some acc
  | .tup [k, d] :: ds, acc => (keyOf k).bind fun k => dictGo ds (dPut acc.1 acc.2 k d)
  | _ :: _, _ => none
def gDict : List D → Option D
  | [.tup ds] => (dictGo ds ([], [])).map fun r => .dct r.1 r.2
  | _ => none
section
variable {K : PySem.W.Frag} {F H : Hp}
theorem dict_go_rps : ∀ {vs : List V} {ds : List D} {acc : List (Key × V)} {da : List D} {r : List Key × List D}, Rps K F vs ds → Rps K F (acc.map (·.2)) da → dictGo ds (acc.map (·.1), da) = some r →
    ∃ (ps : List Addr) (kvs : List (Key × V)), vs = ps.map V.ref ∧ Paired (fun p kv => TupC F p [kV kv.1, kv.2]) ps kvs ∧ (mergeK acc kvs).map (·.1) = r.1 ∧ Rps K F ((mergeK acc kvs).map (·.2)) r.2
  | _, _, acc, da, r, .nil, ra, e => by
    cases e
    exact ⟨[], [], rfl, .nil, rfl, ra⟩
  | _, _, acc, da, r, .cons (v := v) (d := d) h t, ra, e => by
    unfold dictGo at e
    split at e
    · rename_i h0; cases h0
    · rename_i k d ds h0
      cases h0
      cases h with
      | tup tc r2 =>
        cases r2 with
        | cons hk r3 =>
          cases r3 with
          | cons hd r4 =>
            cases r4
            cases ek : keyOf k with
            | none => rw [ek] at e; cases e
            | some key =>
              rw [ek, Option.bind_some] at e
              have ew := keyOf_vw (H := F) (.inl hk) ek
              subst ew
              obtain ⟨k1, k2⟩ := dPut_put (k := key) hd ra
              obtain ⟨ps, kvs, e1, e2, e3, e4⟩ := dict_go_rps (acc := putK acc key _) t k2 (by rw [k1]; exact e)
              exact ⟨_ :: ps, (key, _) :: kvs, by rw [e1]; rfl, .cons tc e2, e3, e4⟩
    · cases e
end
section
variable {G : Gx} {ex : String → Addr} {X : Cx} {W : WX}
theorem fsem_dict : FSem G (rDictT G.K) gDict := fun F H vs ds d Q fh vw e q => by
  unfold gDict at e
  split at e
  · rename_i ds
    cases e1 : dictGo ds ([], []) with
    | none => rw [e1] at e; cases e
    | some r =>
      rw [e1] at e
      cases e
      cases vw with
      | cons h t =>
        cases t
        rcases h with h | ⟨_, _, _, _, h⟩
        · cases h with
          | tup tc rs =>
            obtain ⟨ps, kvs, e2, e3, e4, e5⟩ := dict_go_rps (acc := []) rs .nil e1
            subst e2
            exact ⟨_, ps, kvs, rfl, fh.tupC tc, paired_on (fun u _ w hw => (fh.tupC hw).sq) e3, fun p hp => q p _ hp ⟨_, rfl, e4, e5⟩⟩
        · exact h.elim
  · cases e
end
/-! ### d.get(k), d.get(k, x) -/
def sGet1 (so : SO) (sk : SE) : SE := fun ρ => (so ρ).bind fun o ρ1 => match o.get ρ1 with
  | some (.dct _ _) => (sk ρ1).bind fun kd ρ2 => match o.get ρ2, keyOf kd with
    | some (.dct ks ds), some k => .ok ((dLook ks ds k).getD .non) ρ2
    | _, _ => .stuck
  | _ => .stuck
def sGet2 (so : SO) (sk sx : SE) : SE := fun ρ => (so ρ).bind fun o ρ1 => match o.get ρ1 with
  | some (.dct _ _) => (sk ρ1).bind fun kd ρ2 => (sx ρ2).bind fun x ρ3 => match o.get ρ3, keyOf kd with
    | some (.dct ks ds), some k => .ok ((dLook ks ds k).getD x) ρ3
    | _, _ => .stuck
  | _ => .stuck
@[simp] theorem ev_get1 (so : SO) (sk : SE) (ρ : Env) : sGet1 so sk ρ = (so ρ).bind fun o ρ1 => match o.get ρ1 with
  | some (.dct _ _) => (sk ρ1).bind fun kd ρ2 => match o.get ρ2, keyOf kd with
    | some (.dct ks ds), some k => .ok ((dLook ks ds k).getD .non) ρ2
    | _, _ => .stuck
  | _ => .stuck := rfl
@[simp] theorem ev_get2 (so : SO) (sk sx : SE) (ρ : Env) : sGet2 so sk sx ρ = (so ρ).bind fun o ρ1 => match o.get ρ1 with
  | some (.dct _ _) => (sk ρ1).bind fun kd ρ2 => (sx ρ2).bind fun x ρ3 => match o.get ρ3, keyOf kd with
    | some (.dct ks ds), some k => .ok ((dLook ks ds k).getD x) ρ3
    | _, _ => .stuck
  | _ => .stuck := rfl
section
variable {ex : String → Addr} {X : Cx} {W : WX} {o e f : Expr} {apos cpos : Pos} {so : SO} {sk sx : SE}
theorem vw_isD {K : PySem.W.Frag} {F H : Hp} (fh : FLe F H) {v : V} {ks : List Key} {ds : List D} (h : Vw K F H v (.dct ks ds)) : ∃ a, v = .ref a ∧ IsD H a := by
  obtain ⟨a, kvs, e, rd, _⟩ := h.dct fh
  exact ⟨a, e, .inl ⟨kvs, rd⟩⟩
theorem d_get1 (hu : At X W) (ho : DO (GK X ex) X W o so) (he : DE (GK X ex) X W e sk) (m : M1 X o "get" apos e cpos := by exact ⟨rfl, rfl, rfl, rfl⟩) : DE (GK X ex) X W (.Call (.Attribute o "get" apos) [e] [] cpos) (sGet1 so sk) :=
  wkE (pe_dget1 (by have := hu.un; omega) ho he m) fun σ H Q ⟨ρ, F, Rv, io, rel, q⟩ => by
    refine ⟨ρ, F, Rv, io, rel, ?_⟩
    unfold sGet1 at q
    cases e1 : so ρ with
    | stuck => rw [e1] at q; exact q.elim
    | exc x ρ' => rw [e1] at q; exact q
    | ok od ρ1 =>
      rw [e1, R.bind_ok] at q
      intro v H1 F1 le1 rel1 ok1
      cases e2 : od.get ρ1 with
      | none => rw [e2] at q; exact q.elim
      | some d =>
        rw [e2] at q
        cases d with
        | dct ks ds =>
          obtain ⟨a, rfl, isd⟩ := vw_isD rel1.fH (rel1.view (G := GK X ex) ok1 e2)
          refine ⟨a, rfl, isd, ρ1, F1, Rv, io, rel1, ?_⟩
          cases e3 : sk ρ1 with
          | stuck => rw [e3] at q; exact q.elim
          | exc x ρ' => rw [e3] at q; exact XPost.le q le1
          | ok kd ρ2 =>
            rw [e3] at q
            intro kv H2 F2 le2 rel2 rk
            have q : match (match od.get ρ2, keyOf kd with | some (.dct ks ds), some k => R.ok ((dLook ks ds k).getD .non) ρ2 | _, _ => .stuck) with | .ok d ρ' => EPost (GK X ex) io Rv F σ ρ' d Q | .exc x ρ' => XPost (GK X ex) W io Rv F ρ' x | .stuck => False := q
            cases e4 : od.get ρ2 with
            | none => rw [e4] at q; exact q.elim
            | some d2 =>
              rw [e4] at q
              cases d2 with
              | dct ks2 ds2 =>
                cases e5 : keyOf kd with
                | none => rw [e5] at q; exact q.elim
                | some k =>
                  rw [e5] at q
                  have q : EPost (GK X ex) io Rv F σ ρ2 ((dLook ks2 ds2 k).getD .non) Q := q
                  obtain ⟨b, kvs, eb, rd, ek, r⟩ := (rel2.view (G := GK X ex) (ok1.mono le2) e4).dct rel2.fH
                  cases eb
                  have ew := keyOf_vw (H := F2) (.inl rk) e5
                  refine ⟨valV kvs k, .inl ⟨kvs, k, rd, ew, rfl⟩, ?_⟩
                  rcases dLook_val k ek r with ⟨z1, z2⟩ | ⟨u, d', z1, z2, rp⟩
                  · rw [z1]; rw [z2] at q; exact q _ _ _ (le1.trans le2) rel2 .non
                  · rw [z1]; rw [z2] at q; exact q _ _ _ (le1.trans le2) rel2 rp
              | _ => exact q.elim
        | _ => exact q.elim
theorem d_get2 (hu : At X W) (ho : DO (GK X ex) X W o so) (he : DE (GK X ex) X W e sk) (hf : DE (GK X ex) X W f sx) (m : M2 X o "get" apos e f cpos := by exact ⟨rfl, rfl, rfl, rfl⟩) : DE (GK X ex) X W (.Call (.Attribute o "get" apos) [e, f] [] cpos) (sGet2 so sk sx) :=
  wkE (pe_dget2 (by have := hu.un; omega) ho he hf m) fun σ H Q ⟨ρ, F, Rv, io, rel, q⟩ => by
    refine ⟨ρ, F, Rv, io, rel, ?_⟩
    unfold sGet2 at q
    cases e1 : so ρ with
    | stuck => rw [e1] at q; exact q.elim
    | exc x ρ' => rw [e1] at q; exact q
    | ok od ρ1 =>
      rw [e1, R.bind_ok] at q
      intro v H1 F1 le1 rel1 ok1
      cases e2 : od.get ρ1 with
      | none => rw [e2] at q; exact q.elim
      | some d =>
        rw [e2] at q
        cases d with
        | dct ks ds =>
          obtain ⟨a, rfl, isd⟩ := vw_isD rel1.fH (rel1.view (G := GK X ex) ok1 e2)
          refine ⟨a, rfl, isd, ρ1, F1, Rv, io, rel1, ?_⟩
          cases e3 : sk ρ1 with
          | stuck => rw [e3] at q; exact q.elim
          | exc x ρ' => rw [e3] at q; exact XPost.le q le1
          | ok kd ρ2 =>
            rw [e3] at q
            intro kv H2 F2 le2 rel2 rk
            refine ⟨ρ2, F2, Rv, io, rel2, ?_⟩
            have q : match ((sx ρ2).bind fun x ρ3 => match od.get ρ3, keyOf kd with | some (.dct ks ds), some k => R.ok ((dLook ks ds k).getD x) ρ3 | _, _ => .stuck) with | .ok d ρ' => EPost (GK X ex) io Rv F σ ρ' d Q | .exc x ρ' => XPost (GK X ex) W io Rv F ρ' x | .stuck => False := q
            cases e6 : sx ρ2 with
            | stuck => rw [e6] at q; exact q.elim
            | exc x ρ' => rw [e6] at q; exact XPost.le q (le1.trans le2)
            | ok xd ρ3 =>
            rw [e6, R.bind_ok] at q
            intro xv H3 F3 le3 rel3 rx
            cases e4 : od.get ρ3 with
            | none => rw [e4] at q; exact q.elim
            | some d2 =>
              rw [e4] at q
              cases d2 with
              | dct ks2 ds2 =>
                cases e5 : keyOf kd with
                | none => rw [e5] at q; exact q.elim
                | some k =>
                  rw [e5] at q
                  have q : EPost (GK X ex) io Rv F σ ρ3 ((dLook ks2 ds2 k).getD xd) Q := q
                  obtain ⟨b, kvs, eb, rd, ek, r⟩ := (rel3.view (G := GK X ex) (ok1.mono (le2.trans le3)) e4).dct rel3.fH
                  cases eb
                  have ew := keyOf_vw (H := F2) (.inl rk) e5
                  refine ⟨valV kvs k, .inl ⟨kvs, k, rd, ew, rfl⟩, ?_⟩
                  rcases dLook_val k ek r with ⟨z1, z2⟩ | ⟨u, d', z1, z2, rp⟩
                  · rw [z1]; rw [z2] at q; exact q _ _ _ ((le1.trans le2).trans le3) rel3 rx
                  · rw [z1]; rw [z2] at q; exact q _ _ _ ((le1.trans le2).trans le3) rel3 rp
              | _ => exact q.elim
        | _ => exact q.elim
end
end Dt

set_option Elab.async false
set_option linter.all false
set_option maxRecDepth 100000
set_option maxHeartbeats 4000000
/-! Statements that never run; two and three variables set at once. -/
namespace Dt
open PySem PySem.Spec PyProof.Rows L2
section
variable {ex : String → Addr} {X : Cx} {W : WX} {pos : Pos}
/-- a statement whose meaning is stuck: that it is never run is the plain law's to show -/
def sNever : SS := fun _ => .stuck
@[simp] theorem ev_never (ρ : Env) : sNever ρ = .stuck := rfl
theorem d_never {st : Stmt} : DS (GK X ex) X W st sNever := ⟨fun pins s σ H D I h => by
  obtain ⟨ρ, F, Rv, io, rel, q⟩ := h
  exact q.elim⟩
/-- a, b = x, y -/
def sPar (i j : Nat) (s : SA) : SS := fun ρ => (s ρ).bind fun ds ρ1 => match ds with
  | [d, e] => (gSet i d ρ1).bind fun _ ρ2 => (gSet j e ρ2).bind fun _ ρ3 => .ok .nx ρ3
  | _ => .stuck
@[simp] theorem ev_par (i j : Nat) (s : SA) (ρ : Env) : sPar i j s ρ = (s ρ).bind fun ds ρ1 => match ds with
  | [d, e] => (gSet i d ρ1).bind fun _ ρ2 => (gSet j e ρ2).bind fun _ ρ3 => .ok .nx ρ3
  | _ => .stuck := rfl
theorem d_par {i j : Nat} {x y : Str} {a b : Expr} {sA : SA} {px py pt : Pos} {kt k2 pt2} (hu : At X W) (hi : X.N[i]? = some x) (hj : X.N[j]? = some y) (hij : i ≠ j) (hx : X.env.scope.names.lookup x = some .local) (hy : X.env.scope.names.lookup y = some .local)
    (ha : DA (GK X ex) X W [a, b] sA) (hw : swappedStores [.Tuple [.Name x px, .Name y py] kt pt] (.Tuple [a, b] k2 pt2) X.env = pure (some [x, y])) (hs : swapsWithSole [.Tuple [.Name x px, .Name y py] kt pt] (.Tuple [a, b] k2 pt2) pos.line X.env = pure false := by rfl) :
    DS (GK X ex) X W (.Assign [.Tuple [.Name x px, .Name y py] kt pt] (.Tuple [a, b] k2 pt2) pos) (sPar i j sA) := wkS (ps_par hu.calm hu.nd hi hj hij hx hy ha hw hs) fun D σ H ⟨ρ, F, Rv, io, rel, q⟩ => by
  refine ⟨ρ, F, Rv, io, rel, ?_⟩
  unfold sPar at q
  cases e : sA ρ with
  | stuck => rw [e] at q; exact q.elim
  | exc x ρ' => rw [e] at q; exact q
  | ok ds ρ1 =>
    rw [e, R.bind_ok] at q
    intro vs H1 F1 le1 rel1 r
    match ds, r, q with
    | [d1, d2], .cons (v := v1) r1 (.cons (v := v2) r2 .nil), q =>
      refine ⟨v1, v2, rfl, ?_⟩
      cases e1 : gSet i d1 ρ1 with
      | stuck => dsimp only at q; rw [e1] at q; exact q.elim
      | exc x ρ'' => unfold gSet at e1; split at e1 <;> cases e1
      | ok u ρ2 =>
        dsimp only at q
        rw [e1, R.bind_ok] at q
        obtain ⟨h1, rfl⟩ := gSet_ok e1
        cases e2 : gSet j d2 (ρ1.set i (.fro d1)) with
        | stuck => rw [e2] at q; exact q.elim
        | exc x ρ'' => unfold gSet at e2; split at e2 <;> cases e2
        | ok u ρ3 =>
          rw [e2, R.bind_ok] at q
          obtain ⟨h2, rfl⟩ := gSet_ok e2
          exact q _ H1 F1 le1 ((rel1.setFro r1 h1).setFro r2 h2)
end
end Dt

set_option Elab.async false
set_option linter.all false
set_option maxRecDepth 100000
set_option maxHeartbeats 4000000
/-! Defs with one star parameter and no other. -/
namespace Dt
open PySem PySem.Spec PyProof.Rows L2 StX
section
variable {P : Program} {w : World} {K : PySem.W.Frag} {mg : Str → Option Value} {base : Heap}
/-- what a call with the values vs promises: the body, the tuple of them at a new address -/
def spS (G : Gx) (g : List D → FR) : Sp := fun vs H Q E => vs.length ≤ sizeLine ∧ ∀ p, H p = none → spP G 1 g [V.ref p] (upd H p (.tup vs)) Q E
theorem d_defS {x qual : Str} {st : Stmt} {f : Addr} {fd : FuncData} {N : List Str} {pv : Str} {k : Nat} {body : SS} (ex : String → Addr) (F : Fun K x qual st f fd) (S : FnScope N [pv] (defScope st))
    (hb : ∀ us rest : List Value, us.length = ([] : List Str).length → bindArgs fd ⟨us ++ rest, []⟩ = (newTuple rest >>= fun t => pure (([] : List Str).zip us ++ [(pv, t)])))
    (h : ∀ (cdv : Value) (A : Around) (outer : List PySem.Env) (s : Shared) (H : Hp) (E : XK), Room k (A.deeper (envOfC qual (defScope st) s.heap.objs.size f cdv)) →
      DSs ⟨K, ex⟩ (cxOf (L2.CX P w) P w K mg base N qual (defScope st) f cdv A outer s H E) (wE E) (defBody st) body) : FnR P w K mg base (L2.CX P w) (k + 1) f (spS ⟨K, ex⟩ (runP N.length 1 body)) := by
  obtain ⟨oc, od, kV, doc, pm, an, cdv, ct, osl, rfl, lk, hcd⟩ := F.ex
  refine FnR.imp (fn_star (ps := []) (pv := pv) (sp := spP ⟨K, ex⟩ 1 (runP N.length 1 body)) lk hcd S cxUp hb fun A outer s H vs Q E hr ⟨ds, F0, Rv, hl, ap, r, q⟩ => ⟨_, h cdv A outer s H E hr, ?_⟩) fun vs H Q E ⟨z, q⟩ => ⟨[], vs, rfl, rfl, z, q⟩
  have e0 : L2.start N vs = vs.map some ++ List.replicate (N.length - 1) none := by unfold L2.start; rw [hl]
  rw [e0]
  refine ⟨_, F0, Rv, {}, rel_start ap r, ?_⟩
  unfold runP at q
  cases e : body (ds.map Cell.fro ++ List.replicate (N.length - 1) Cell.no) with
  | stuck => rw [e] at q; exact q.elim
  | exc x ρ' => rw [e] at q; exact fun cls dd σ' H' F' le rel xr => q cls dd H' F' le ⟨rel.fH, rel.rH, rel.dj⟩ xr
  | ok fl ρ' =>
    rw [e] at q
    cases fl with
    | nx => exact fun σ' H' F' le rel => q _ H' F' le ⟨rel.fH, rel.rH, rel.dj⟩ .non
    | bk => exact q.elim
    | ct => exact q.elim
    | rt d => exact fun v σ' H' F' le rel rp => q v H' F' le ⟨rel.fH, rel.rH, rel.dj⟩ rp
/-- a def of the text with one star parameter, as it stands; and what it computes -/
structure FnS (K : PySem.W.Frag) (mg : Str → Option Value) (x : Str) (st : Stmt) (pv : Str) : Prop where
  there : ∃ f fd, Fun K x x st f fd ∧ mg x = some (.ref f) ∧ ∀ us rest : List Value, us.length = ([] : List Str).length → bindArgs fd ⟨us ++ rest, []⟩ = (newTuple rest >>= fun t => pure (([] : List Str).zip us ++ [(pv, t)]))
structure CalS (P : Program) (w : World) (K : PySem.W.Frag) (mg : Str → Option Value) (base : Heap) (x : Str) (k : Nat) (sp : Sp) : Prop where
  there : ∃ f, FnR P w K mg base (L2.CX P w) k f sp ∧ mg x = some (.ref f) ∧ PySem.W.keepIn K (.ref f) = true
theorem CalS.mono {j k : Nat} {x : Str} {sp : Sp} (C : CalS P w K mg base x j sp) (h : j ≤ k) : CalS P w K mg base x k sp := let ⟨f, F, r⟩ := C.there; ⟨f, FnR.mono F h, r⟩
theorem cal_S {x : Str} {st : Stmt} {N : List Str} {pv : Str} {k : Nat} {body : SS} (ex : String → Addr) (F : FnS K mg x st pv) (S : FnScope N [pv] (defScope st))
    (h : ∀ (f : Addr) (cdv : Value) (A : Around) (outer : List PySem.Env) (s : Shared) (H : Hp) (E : XK), Room k (A.deeper (envOfC x (defScope st) s.heap.objs.size f cdv)) →
      DSs ⟨K, ex⟩ (cxOf (L2.CX P w) P w K mg base N x (defScope st) f cdv A outer s H E) (wE E) (defBody st) body) : CalS P w K mg base x (k + 1) (spS ⟨K, ex⟩ (runP N.length 1 body)) := by
  obtain ⟨f, fd, F, hm, hb⟩ := F.there
  exact ⟨f, d_defS ex F S hb (h f), hm, F.kp⟩
end
section
variable {ex : String → Addr} {X : Cx} {W : WX} {e : Expr} {es : List Expr} {pos p : Pos} {x : Str} {sA : SA} {k : Nat} {g : List D → FR}
theorem pe_callFR {CX : CXT} {f : Addr} {sp : Sp} {E : L2.St → XK} {t : TA} (F : FnR X.prog X.w X.K X.mg X.base CX k f sp) (hr : Room k X.A) (hg : Gl X x) (hm : X.mg x = some (.ref f)) (hk : PySem.W.keepIn X.K (.ref f) = true) (hx : ∀ σ, PassesAt CX X σ (E σ))
    (ha : PA X (e :: es) t) (hdb : (x == ("__debug__" : Str)) = false := by decide) (he : starEach (e :: es) X.env = (false, eval e X.env) :: starEach es X.env := by rfl) (hpl : (backTo pos (starEach es X.env)).any (·.1) = false := by rfl) : PE X (.Call (.Name x p) (e :: es) [] pos) (tCallS sp E t) := by
  constructor; intro pins s σ H Q I h
  refine wpAny_Call_Name_kw (ld_glob I hg hm (PySem.W.callWith_K (h₀ := X.base) I.ok.mod.kin hk (thn (ha.run pos pins s σ H _ I h) fun us s1 ⟨vs, H1, I1, r, q⟩ => ⟨I1.kIn, wpAny_call (codeAny_mono (F X.A X.stack s1 H1 us vs Q (E σ) hr I1.env0 r q) fun r s' hq => ?_)⟩) he hpl) hdb)
  cases r with
  | error e => exact hx σ pins H1 s1 e s' I1 hq
  | ok fl =>
    cases fl with
    | ret u => exact I1.after hq
    | _ => exact False.elim hq
def sCallS (g : List D → FR) (s : SA) : SE := fun ρ => (s ρ).bind fun ds ρ' => if ds.length ≤ sizeLine then endP (g [.arg ds]) ρ' else .stuck
@[simp] theorem ev_callS (g : List D → FR) (s : SA) (ρ : Env) : sCallS g s ρ = (s ρ).bind fun ds ρ' => if ds.length ≤ sizeLine then endP (g [.arg ds]) ρ' else .stuck := rfl
theorem d_callS (hu : At X W) (C : CalS X.prog X.w X.K X.mg X.base x k (spS (GK X ex) g)) (hr : Room k X.A) (hg : Gl X x)
    (ha : DA (GK X ex) X W (e :: es) sA) (hdb : (x == ("__debug__" : Str)) = false := by decide) (he : starEach (e :: es) X.env = (false, eval e X.env) :: starEach es X.env := by rfl) (hpl : (backTo pos (starEach es X.env)).any (·.1) = false := by rfl) :
    DE (GK X ex) X W (.Call (.Name x p) (e :: es) [] pos) (sCallS g sA) :=
  let ⟨f, F, hm, hk⟩ := C.there
  wkE (pe_callFR (E := WE W) F hr hg hm hk (fun σ => passAt hu.tk σ) ha hdb he hpl) fun σ H Q ⟨ρ, F, Rv, io, rel, q⟩ => by
    refine ⟨ρ, F, Rv, io, rel, ?_⟩
    unfold sCallS at q
    cases e : sA ρ with
    | stuck => rw [e] at q; exact q.elim
    | exc x ρ' => rw [e] at q; exact q
    | ok ds ρ' =>
      rw [e, R.bind_ok] at q
      intro vs H1 F1 le rel1 r
      by_cases hn : ds.length ≤ sizeLine
      · rw [if_pos hn] at q
        refine ⟨by rw [r.length]; exact hn, fun a ha => ?_⟩
        have leN : FLe F1 (upd F1 a (.tup vs)) := FLe.upd _ (rel1.fH.noneOf ha)
        have relN := rel1.after (New.obj rel1.fH ha (.tup vs))
        refine ⟨[.arg ds], upd F1 a (.tup vs), restOf (upd F1 a (.tup vs)) (upd H1 a (.tup vs)) none, rfl, restOf_apart relN none, .cons (.arg (.inl (.inl upd_same)) (r.mono leN)) .nil, ?_⟩
        cases e2 : g [.arg ds] with
        | stuck => rw [e2] at q; exact q.elim
        | ok d o => rw [e2] at q; exact fun v H' F' le2 ap rp => q v H' F' ((le.trans leN).trans le2) (relN.behind le2 ap) rp
        | exc x => rw [e2] at q; exact fun cls dd H' F' le2 ap xr => q cls dd σ H' F' ((le.trans leN).trans le2) (relN.behind le2 ap) xr
      · rw [if_neg hn] at q; exact q.elim
end
end Dt

set_option Elab.async false
set_option linter.all false
set_option maxRecDepth 100000
set_option maxHeartbeats 4000000
/-! A dict comprehension with two fors: each clause by one rule, its body told as what it does to the dict so far. -/
namespace Dt
open PySem PySem.Spec PyProof.Rows L2

abbrev Acc := List Key × List D
/-- one clause: the items, one after another; bs: what stands behind it -/
def clGo (vs : List Nat) (g : SG) (bs : Acc → Env → R Acc) : List D → Acc → Env → R Acc
  | [], acc, ρ => .ok acc ρ
  | d :: ds, acc, ρ => (g d ρ).bind fun _ ρ1 => (bs acc ρ1).bind fun acc' ρ2 => if plainAt ρ2 vs = true then clGo vs g bs ds acc' (wipeE ρ2 vs) else .stuck
/-- the last clause's body: k: v is put -/
def putS (sk s : SE) : Acc → Env → R Acc := fun acc ρ => (sk ρ).bind fun kd ρ1 => (s ρ1).bind fun z ρ2 => match keyOf kd with
  | none => .stuck
  | some k => if acc.1.length < sizeLine then .ok (dPut acc.1 acc.2 k z) ρ2 else .stuck
/-- the first one's body: the second clause -/
def innS (vs1 : List Nat) (it1 : SA) (g1 : SG) (bs : Acc → Env → R Acc) : Acc → Env → R Acc := fun acc ρ => (it1 ρ).bind fun ds ρ1 => if plainAt ρ1 vs1 = true then clGo vs1 g1 bs ds acc (wipeE ρ1 vs1) else .stuck
def sDComp2 (vs vs1 : List Nat) (it : SA) (g : SG) (it1 : SA) (g1 : SG) (sk s : SE) : SE := fun ρ => (it ρ).bind fun ds ρ1 =>
  if plainAt ρ1 vs = true then (noX (clGo vs g (innS vs1 it1 g1 (putS sk s)) ds ([], []) (wipeE ρ1 vs))).bind fun zs ρ2 => .ok (.dct zs.1 zs.2) (backE ρ1 ρ2 vs) else .stuck

theorem Keeps.refl {vs : List Nat} {σ : L2.St} : Keeps vs σ σ := ⟨rfl, fun _ _ => rfl⟩
theorem thnX {X : Cx} (hx : X.xe = fun _ _ => False) {α : Type} {t : Sem α} {Q Q' : α → Shared → Prop} {M : Model} {A : Around} {E : Value → Shared → Prop} {s : Shared} (h : wpAny M A t Q X.xe s) (hQ : ∀ a s, Q a s → Q' a s) : wpAny M A t Q' E s := by
  rw [hx] at h
  exact thnF h hQ

/-- a body (what comes behind it is k): from the dict at Dl as it stands to the dict behind it; the slots vs are its own -/
structure BodyOk (G : Gx) (X : Cx) (Dl : Addr) (vs : List Nat) (body : Sem Fin → Sem Fin) (bs : Acc → Env → R Acc) : Prop where
  run : ∀ (pins : List (Addr × Obj)) (σ : L2.St) (H : Hp) (s : Shared) (ρ : Env) (F Rv : Hp) (io : Io) (kvs : List (Key × V)) (dn : List D) (zs : Acc) (ρ' : Env), Inv X pins σ H s → Rel G.K io (upd Rv Dl (.dK kvs)) ρ F σ H →
    Rps G.K F (kvs.map (·.2)) dn → bs (kvs.map (·.1), dn) ρ = .ok zs ρ' → ∀ (k : Sem Fin) (Q : Fin → Shared → Prop) (E : Value → Shared → Prop),
    (∀ s' σ' H' kvs' F', Inv X pins σ' H' s' → FLe F F' → Keeps vs σ σ' → Rel G.K io (upd Rv Dl (.dK kvs')) ρ' F' σ' H' → kvs'.map (·.1) = zs.1 → Rps G.K F' (kvs'.map (·.2)) zs.2 → wpAny (model X.prog X.w) X.A k Q E s') →
    wpAny (model X.prog X.w) X.A (body k) Q E s
section
variable {G : Gx} {X : Cx} {Dl : Addr} {vs : List Nat}
theorem body_put {kx vx : Expr} {sk s : SE} {place : Pos} (hx : X.xe = fun _ _ => False) (hk : DE G X W0 kx sk) (he : DE G X W0 vx s) :
    BodyOk G X Dl vs (fun k => (do let kv ← eval kx X.env; let vv ← holding [kv] (eval vx X.env); standAt place; holding [kv, vv] (dictSet Dl kv vv)) >>= fun _ => k) (putS sk s) := by
  refine ⟨fun pins σ H s0 ρ F Rv io kvs dn zs ρ' I rel rps e k Q E q => wpAny_bind ?_⟩
  unfold putS at e
  cases e1 : sk ρ with
  | stuck => rw [e1] at e; cases e
  | exc x ρ1 => rw [e1] at e; cases e
  | ok kd ρ1 =>
    rw [e1, R.bind_ok] at e
    cases e2 : s ρ1 with
    | stuck => rw [e2] at e; cases e
    | exc x ρ2 => rw [e2] at e; cases e
    | ok z ρ2 =>
      rw [e2, R.bind_ok] at e
      cases e3 : keyOf kd with
      | none => rw [e3] at e; cases e
      | some key =>
        rw [e3] at e
        have e : (if kvs.length < sizeLine then R.ok (dPut (kvs.map (·.1)) dn key z) ρ2 else .stuck) = R.ok zs ρ' := by simpa using e
        by_cases hz : kvs.length < sizeLine
        · rw [if_pos hz] at e; cases e
          have r1 := hk.run pins s0 σ H (fun x H1 => ∃ F1, FLe F F1 ∧ Rel G.K io (upd Rv Dl (.dK kvs)) ρ1 F1 σ H1 ∧ Rp G.K F1 x kd) I ⟨ρ, F, _, io, rel, by rw [e1]; exact fun v H' F' a b c => ⟨F', a, b, c⟩⟩
          refine wpAny_bind (thnX hx r1 fun kv s1 ⟨x, H1, I1, rx, F1, le1, rel1, rp1⟩ => ?_)
          have r2 := he.run pins s1 σ H1 (fun x H2 => ∃ F2, FLe F1 F2 ∧ Rel G.K io (upd Rv Dl (.dK kvs)) ρ' F2 σ H2 ∧ Rp G.K F2 x z) I1 ⟨ρ1, F1, _, io, rel1, by rw [e2]; exact fun v H' F' a b c => ⟨F', a, b, c⟩⟩
          refine wpAny_bind (wpAny_holding (thnX hx r2 fun vv s2 ⟨y, H2, I2, ry, F2, le2, rel2, rp2⟩ => wpAny_bind (wpAny_standAt (wpAny_holding ?_))))
          have ek := keyOf_vw (H := H1) (.inl rp1) e3
          subst ek
          obtain ⟨k1, k2⟩ := dPut_put (k := key) rp2 (rps.mono (le1.trans le2))
          exact d_dictSet I2 (rel2.rH Dl _ upd_same) hz rx ry fun s3 I3 => q s3 σ _ (putK kvs key y) F2 I3 (le1.trans le2) Keeps.refl rel2.resPut k1 k2
        · rw [if_neg hz] at e; cases e
/-- a clause's loop -/
theorem clause_loop (hc : X.calm = true) (hx : X.xe = fun _ _ => False) {kx vx : Expr} {gens : List Comprehension} {scope : Scope} {pos : Pos} {depth : Nat} {tg : Expr} {it : Addr} {body : Sem Fin → Sem Fin} {spos : Pos} {js : List Nat} {g : SG} {bs : Acc → Env → R Acc}
    (ht : compTurn (.DictComp kx vx gens scope pos) depth (.ref it) (.ref Dl) X.env = (do
      standAt spos
      match ← pyNext (.ref it) with
      | none => pure (.done .next)
      | some v => do
        letOwnedTupleGo tg (.ref it) v
        assign tg X.env v
        body (again (.compLoop (.DictComp kx vx gens scope pos) depth (.ref it) (.ref Dl) X.env))))
    (pg : DG G X W0 js tg g) (hjs : ∀ j ∈ js, j ∈ vs) (hb : BodyOk G X Dl vs body bs) {fp : List Addr} {tn : Nat → Heap → Prop} {J : It} (T : Turn X.prog X.w X.K tg J fp it tn) {pins : List (Addr × Obj)} {σ : L2.St} (hσ : wipe σ vs = σ)
    (hf : ∀ b ∈ fp, ∀ H : Hp, H b = none → FpOk X pins H b) {io : Io} {Rv F0 : Hp} {ds : List D} {zs : Acc} {ρe : Env} (J1 : IterOk G.K J F0 ds) {R' : Result → Shared → Prop}
    (hR : ∀ s' H' kvs' F', Inv X pins σ H' s' → (∀ b ∈ fp, H' b = none) → FLe F0 F' → Rel G.K io (upd Rv Dl (.dK kvs')) ρe F' σ H' → kvs'.map (·.1) = zs.1 → Rps G.K F' (kvs'.map (·.2)) zs.2 → R' (.ok .next) s')
    {s : Shared} {H : Hp} {ρ : Env} {F : Hp} {kvs : List (Key × V)} {dn : List D} (I0 : Inv X pins σ H s) (st0 : tn 0 s.heap) (n0 : ∀ b ∈ fp, H b = none) (le0 : FLe F0 F) (rel0 : Rel G.K io (upd Rv Dl (.dK kvs)) ρ F σ H) (r0 : Rps G.K F (kvs.map (·.2)) dn)
    (go0 : clGo vs g bs ds (kvs.map (·.1), dn) ρ = .ok zs ρe) : codeAny (model X.prog X.w) X.A (.compLoop (.DictComp kx vx gens scope pos) depth (.ref it) (.ref Dl) X.env) R' s := by
  refine codeAny_loop rfl (fun n s' => ∃ (i : Nat) (H' : Hp) (ρi : Env) (Fi : Hp) (kvs : List (Key × V)) (dn : List D), n = ds.length - i ∧ i ≤ ds.length ∧ Inv X pins σ H' s' ∧ tn i s'.heap ∧ (∀ b ∈ fp, H' b = none) ∧ FLe F0 Fi ∧
    Rel G.K io (upd Rv Dl (.dK kvs)) ρi Fi σ H' ∧ Rps G.K Fi (kvs.map (·.2)) dn ∧ clGo vs g bs (ds.drop i) (kvs.map (·.1), dn) ρi = .ok zs ρe) (fun n s1 hI => ?_) ds.length ⟨0, H, ρ, F, kvs, dn, rfl, Nat.zero_le _, I0, st0, n0, le0, rel0, r0, go0⟩
  obtain ⟨i, H1, ρi, Fi, kvs, dn, rfl, hi, I1, st1, n1, le1, rel1, r1, go1⟩ := hI
  show wpAny _ X.A ((compTurn (.DictComp kx vx gens scope pos) depth (.ref it) (.ref Dl) X.env).onRaise fun x => do noteFrame x X.env; theTreesLotGoes x) _ _ s1
  refine wpAny_noted ?_
  rw [ht]
  refine wpAny_bind (wpAny_standAt (wpAny_bind ?_))
  by_cases hlt : i < ds.length
  · refine thnF (T.item X rfl rfl rfl hc i pins s1 σ H1 (fun _ _ => False) I1 (fun b hb => hf b hb H1 (n1 b hb)) st1 (J1.go i Fi H1 le1 rel1.fH hlt)) fun r s2 ⟨u, hr, h2⟩ => ?_
    subst hr
    refine wpAny_bind (thnF h2 fun _ s3 ⟨x, H3, I3, rx, y, st3, n3⟩ => ?_)
    obtain ⟨d, hd, hdr⟩ := drop_at hlt
    rw [hdr] at go1
    unfold clGo at go1
    obtain ⟨F3, nw, rp⟩ := J1.yld i Fi H1 H3 x d le1 rel1.fH hd y
    have rel3 := rel1.after nw
    cases e3 : g d ρi with
    | stuck => rw [e3] at go1; cases go1
    | exc x ρ' => rw [e3] at go1; cases go1
    | ok _ ρ4 =>
      rw [e3, R.bind_ok] at go1
      have I3' := I3.pinned (fun b hb => hf b hb H3 (n3 b hb)) (T.obj _ _ st3)
      have r4 := pg.run (pins ++ pinsAt fp s3.heap) s3 σ H3 x u (fun σ4 H4 => ∃ F4, FLe F3 F4 ∧ Rel G.K io (upd Rv Dl (.dK kvs)) ρ4 F4 σ4 H4 ∧ Keeps js σ σ4) I3' rx ⟨d, ρi, F3, _, io, rel3, rp, by rw [e3]; exact fun σ' H' F' a b c => ⟨F', a, b, c⟩⟩
      refine wpAny_bind (thnX hx r4 fun _ s4 ⟨σ4, H4, I4, F4, le4, rel4, kp4⟩ => ?_)
      cases e5 : bs (kvs.map (·.1), dn) ρ4 with
      | stuck => rw [e5] at go1; cases go1
      | exc x ρ' => rw [e5] at go1; cases go1
      | ok acc ρ5 =>
        rw [e5, R.bind_ok] at go1
        refine hb.run _ σ4 H4 s4 ρ4 F4 Rv io kvs dn acc ρ5 I4 rel4 (r1.mono (nw.f.trans le4)) e5 _ _ _ fun s5 σ5 H5 kvs5 F5 I5 le5 kp5 rel5 k5 r5 => ?_
        by_cases hp : plainAt ρ5 vs = true
        · rw [if_pos hp] at go1
          have out : ∀ j, j ∉ vs → σ5[j]? = (wipe σ vs)[j]? := fun j hj => by rw [hσ, kp5.2 j hj, kp4.2 j fun z => hj (hjs j z)]
          have hw : wipe σ5 vs = σ := (wipe_same (kp5.1.trans kp4.1) out).trans hσ
          have rel6 := rel5.wiped hp
          rw [hw] at rel6
          have pin : ∀ b ∈ fp, ∀ o, s3.heap.get? b = some o → s5.heap.get? b = some o ∧ H5 b = none := fun b hb o eo => let z := I5.pin (b, o) (List.mem_append_right _ (List.mem_append_right _ (mem_pinsAt hb eo))); ⟨z.1, z.2.1⟩
          exact wpAny_pure ⟨rfl, ds.length - (i + 1), by omega, i + 1, H5, wipeE ρ5 vs, F5, kvs5, acc.2, rfl, hlt, I5.unpinned.weak (by rw [← hw, wipe_length]) (fun j v ej => by rw [← hw] at ej; exact (wipe_some ej).1),
            T.keep _ _ _ st3 fun b hb o eo => (pin b hb o eo).1, fun b hb => by obtain ⟨o, eo, _⟩ := T.obj _ _ st3 b hb; exact (pin b hb o eo).2, ((le1.trans nw.f).trans le4).trans le5, rel6, r5, by rw [k5]; exact go1⟩
        · rw [if_neg hp] at go1; cases go1
  · have hi2 : i = ds.length := by omega
    subst hi2
    rw [List.drop_eq_nil_of_le (Nat.le_refl _)] at go1
    unfold clGo at go1
    cases go1
    refine thnF (T.done X rfl rfl rfl hc _ pins s1 σ H1 (fun _ _ => False) I1 (fun b hb => hf b hb H1 (n1 b hb)) st1 (J1.stop Fi H1 le1 rel1.fH)) fun r s2 ⟨hr, I2⟩ => ?_
    subst hr
    exact wpAny_pure (hR s2 H1 kvs Fi I2 n1 le1 rel1 rfl r1)
/-- a clause behind the first one starts -/
theorem start_any {prog : Program} {w : World} {A : Around} {R' : Result → Shared → Prop} {s : Shared} {kx vx : Expr} {gens : List Comprehension} {scope : Scope} {pos : Pos} {n : Nat} {t i : Expr} {ifs : List Expr} {it acc : Value} {env : PySem.Env} (hn : gens[n]? = some ⟨t, i, ifs, 0⟩)
    (h0 : codeAny (model prog w) A (.compLoop (.DictComp kx vx gens scope pos) n it acc env) R' s)
    (h : ∀ E, wpAny (model prog w) A (pyIter it) (fun j s' => codeAny (model prog w) A (.compLoop (.DictComp kx vx gens scope pos) n j acc env) R' s') E s) : codeAny (model prog w) A (.compStart (.DictComp kx vx gens scope pos) n it acc env) R' s := by
  refine codeAny_of_tree ?_
  show wpAny _ _ ((compStart (.DictComp kx vx gens scope pos) n it acc env).onRaise (fun x => do noteFrame x env; standAt theWindowsPlace)) _ _ s
  refine wpAny_notedAt ?_
  unfold compStart
  have hn : (clausesOf (.DictComp kx vx gens scope pos))[n]? = some ⟨t, i, ifs, 0⟩ := hn
  rw [hn]
  refine wpAny_bind (wpAny_askSetting (wpAny_ite ?_))
  split
  · first | exact wpAny_bind (wpAny_pure (wpAny_pure ⟨rfl, h0⟩)) | exact wpAny_pure ⟨rfl, h0⟩
  · refine wpAny_bind (wpAny_rule ?_)
    exact wpAny_bind (wpAny_standAt (wpAny_bind (thn (h _) fun j s' hj => wpAny_pure ⟨rfl, hj⟩)))
theorem wipe_twice {σ : L2.St} {vs : List Nat} : wipe (wipe σ vs) vs = wipe σ vs := wipe_same (wipe_length σ vs) fun _ _ => rfl
theorem body_inner {kx vx tg iter tg1 iter1 : Expr} {scope : Scope} {pos : Pos} {vs1 js1 : List Nat} {it1 : SA} {g1 : SG} {bs : Acc → Env → R Acc} {body1 : Sem Fin → Sem Fin} (hc : X.calm = true) (hx : X.xe = fun _ _ => False)
    (hi1 : DI G X W0 tg1 iter1 it1) (pg1 : DG G X W0 js1 tg1 g1) (hjs1 : ∀ j ∈ js1, j ∈ vs1) (hv : ∀ j ∈ vs1, j ∈ vs) (hs1 : ∀ x, foldedSetIterable iter1 X.env x = pure x) (hb : BodyOk G X Dl vs1 body1 bs)
    (ht : ∀ I : Addr, compTurn (.DictComp kx vx [⟨tg, iter, [], 0⟩, ⟨tg1, iter1, [], 0⟩] scope pos) 1 (.ref I) (.ref Dl) X.env = (do
      standAt iter1.pos
      match ← pyNext (.ref I) with
      | none => pure (.done .next)
      | some v => do
        letOwnedTupleGo tg1 (.ref I) v
        assign tg1 X.env v
        body1 (again (.compLoop (.DictComp kx vx [⟨tg, iter, [], 0⟩, ⟨tg1, iter1, [], 0⟩] scope pos) 1 (.ref I) (.ref Dl) X.env)))) :
    BodyOk G X Dl vs (fun k => do
      let x ← eval iter1 X.env
      standAt iter1.pos
      let x ← foldedSetIterable iter1 X.env x
      let _ ← runOwn (.compStart (.DictComp kx vx [⟨tg, iter, [], 0⟩, ⟨tg1, iter1, [], 0⟩] scope pos) 1 (← holding [x] (pyIter x)) (.ref Dl) X.env) X.env
      k) (innS vs1 it1 g1 bs) := by
  refine ⟨fun pins σ H s0 ρ F Rv io kvs dn zs ρ' I rel rps e k Q E q => ?_⟩
  unfold innS at e
  cases e1 : it1 ρ with
  | stuck => rw [e1] at e; cases e
  | exc x ρ1 => rw [e1] at e; cases e
  | ok ds ρ1 =>
    rw [e1, R.bind_ok] at e
    by_cases hp : plainAt ρ1 vs1 = true
    case neg => rw [if_neg hp] at e; cases e
    rw [if_pos hp] at e
    have r1 := hi1.run pins s0 σ H (fun J H1 => ∃ F1, FLe F F1 ∧ Rel G.K io (upd Rv Dl (.dK kvs)) ρ1 F1 σ H1 ∧ IterOk G.K J F1 ds) I ⟨ρ, F, _, io, rel, by rw [e1]; exact fun J H' F' a b c => ⟨F', a, b, c⟩⟩
    refine wpAny_bind (thnX hx r1 fun v s1 h1 => ?_)
    refine wpAny_bind (wpAny_standAt (wpAny_bind (wpAny_of_eq (hs1 v) (wpAny_bind (wpAny_holding (thnX hx h1 fun itv s2 h2 => ?_))))))
    obtain ⟨I1, fp, tn, J, H2, e2, I2, T, st2, f2, F2, le2, rel2, J1⟩ := h2
    subst e2
    refine wpAny_bind (wpAny_runOwn ?_)
    rw [Around.mark_none]
    have loop : codeAny (model X.prog X.w) X.A (.compLoop (.DictComp kx vx [⟨tg, iter, [], 0⟩, ⟨tg1, iter1, [], 0⟩] scope pos) 1 (.ref I1) (.ref Dl) X.env) (fun r s' => match r with | .ok _ => wpAny (model X.prog X.w) X.A k Q E s' | .error _ => False) s2 :=
      clause_loop hc hx (ht I1) pg1 hjs1 hb T wipe_twice (fun b hb H hn => ⟨hn, (f2 b hb).2⟩) J1
        (fun s' H' kvs' F' I' n' le' rel' k' r' => q s' (wipe σ vs1) H' kvs' F' I' (le2.trans le') ⟨wipe_length σ vs1, fun j hj => by rw [wipe_get, if_neg fun z => hj (hv j z)]⟩ rel' k' r')
        (I2.weak (wipe_length σ vs1) fun j v ej => (wipe_some ej).1) st2 (fun b hb => (f2 b hb).1) (FLe.refl _) (rel2.wiped hp) (rps.mono le2) e
    refine codeAny_mono (start_any (t := tg1) (i := iter1) (ifs := []) rfl loop fun E => T.self X.A 0 _ _ _ st2 loop) fun r s' hr => ?_
    cases r with
    | ok f => exact hr
    | error e => exact hr.elim
end
theorem d_dcomp2F {ex : String → Addr} {X : Cx} {W : WX} {kx vx tg iter tg1 iter1 : Expr} {scope : Scope} {own : List (Str × Nat)} {pos : Pos} {vs1 js js1 : List Nat} {it it1 : SA} {g g1 : SG} {sk s : SE} (hu : At X W) (hi : DI (GK X ex) X W tg iter it) (ok : BlkOk X.N X.env.scope scope own)
    (hg : ∀ (s : Shared) (H : Hp) (C : Addr) (cl : List (Str × Addr)) (fp : List Addr), DG (GK X ex) (X.blk s H scope (compEnvC scope cl C X.env) fp) W0 js tg g)
    (hi1 : ∀ (s : Shared) (H : Hp) (C : Addr) (cl : List (Str × Addr)) (fp : List Addr), DI (GK X ex) (X.blk s H scope (compEnvC scope cl C X.env) fp) W0 tg1 iter1 it1)
    (hg1 : ∀ (s : Shared) (H : Hp) (C : Addr) (cl : List (Str × Addr)) (fp : List Addr), DG (GK X ex) (X.blk s H scope (compEnvC scope cl C X.env) fp) W0 js1 tg1 g1)
    (hk : ∀ (s' : Shared) (H : Hp) (C : Addr) (cl : List (Str × Addr)) (fp : List Addr), DE (GK X ex) (X.blk s' H scope (compEnvC scope cl C X.env) fp) W0 kx sk)
    (he : ∀ (s' : Shared) (H : Hp) (C : Addr) (cl : List (Str × Addr)) (fp : List Addr), DE (GK X ex) (X.blk s' H scope (compEnvC scope cl C X.env) fp) W0 vx s)
    (hjs : js.all (fun j => (own.map (·.2)).contains j) = true) (hjs1 : js1.all (fun j => vs1.contains j) = true) (hv : vs1.all (fun j => (own.map (·.2)).contains j) = true)
    (hs : ∀ x, foldedSetIterable iter X.env x = pure x := by intro _; rfl) (hs1 : ∀ env x, foldedSetIterable iter1 env x = pure x := by intro _ _; rfl) :
    DF (GK X ex) X W (.DictComp kx vx [⟨tg, iter, [], 0⟩, ⟨tg1, iter1, [], 0⟩] scope pos) (sDComp2 (own.map (·.2)) vs1 it g it1 g1 sk s) := by
  refine ⟨fun pins s0 σ H Q I h => ?_⟩
  rw [arm_eval_DictComp]
  have mem : ∀ {a b : List Nat}, a.all (fun j => b.contains j) = true → ∀ j ∈ a, j ∈ b := fun h j hj => by have w := List.all_eq_true.mp h j hj; simpa using w
  obtain ⟨ρ, F, Rv, io, rel, q⟩ := h
  have hI : tI (GK X ex) W it σ H fun J H1 => ∃ F1 ds ρ1 zs ρe, FLe F F1 ∧ Rel X.K io Rv ρ1 F1 σ H1 ∧ IterOk X.K J F1 ds ∧ plainAt ρ1 (own.map (·.2)) = true ∧ clGo (own.map (·.2)) g (innS vs1 it1 g1 (putS sk s)) ds ([], []) (wipeE ρ1 (own.map (·.2))) = .ok zs ρe ∧
      ∀ p H' F', FLe F F' → Rel X.K io Rv (backE ρ1 ρe (own.map (·.2))) F' σ H' → OwnAt X.K F' Rv H' p (.dct zs.1 zs.2) → Loose (backE ρ1 ρe (own.map (·.2))) σ p → Q (.ref p) H' := by
    refine ⟨ρ, F, Rv, io, rel, ?_⟩
    unfold sDComp2 at q
    cases e : it ρ with
    | stuck => rw [e] at q; exact q.elim
    | exc x ρ' => rw [e] at q; exact q
    | ok ds ρ1 =>
      rw [e, R.bind_ok] at q
      by_cases hp : plainAt ρ1 (own.map (·.2)) = true
      case neg => rw [if_neg hp] at q; exact q.elim
      rw [if_pos hp] at q
      cases e2 : clGo (own.map (·.2)) g (innS vs1 it1 g1 (putS sk s)) ds ([], []) (wipeE ρ1 (own.map (·.2))) with
      | stuck => rw [e2] at q; exact q.elim
      | exc x ρ' => rw [e2] at q; exact q.elim
      | ok zs ρe => rw [e2] at q; exact fun J H' F' a b c => ⟨F', ds, ρ1, zs, ρe, a, b, c, hp, e2, q⟩
  have hfree : ∀ y ∈ scope.names, y.2 = .free → ∃ c, X.env.cells.lookup y.1 = some c := fun y hy e => I.ok.has _ ((ok.free y hy e).elim .inl .inr)
  refine wpAny_comprehension_free (use := none) rfl hs (closure_ok hfree) ok.kind (fun y hy e => by rw [ok.uniq y hy, e]) (thn (hi.run pins s0 σ H _ I hI) fun xv s1 h1 => thn h1 fun itv s2 h2 => ?_)
  obtain ⟨I0, fp, tn, J, H2, e0, I2, T, st2, f2, F1, ds, ρ1, zs, ρe, le1, rel1, J1, hp, hgo, qq⟩ := h2
  subst e0
  refine wpAny_newObj_type (newEnv_comp ?_)
  generalize hD : s2.heap.objs.size = Dl
  have nD : H2 Dl = none := I2.hok.fresh (Nat.le_of_eq hD)
  have nR : Rv Dl = none := rel1.rH.noneOf nD
  generalize h3 : ({ s2 with heap := s2.heap.push { cls := .type "dict", data := .dict #[] } } : Shared) = s3
  have eh : s3.heap = s2.heap.push { cls := .type "dict", data := .dict #[] } := by rw [← h3]
  have I3 : Inv X pins σ (upd H2 Dl (.dK [])) s3 := by
    rw [← h3]; refine I2.laid (t' := s2.toks) (fun b o e => Heap.get?_push_of_some _ e) (Nat.le_of_eq hD) ?_
    rw [← hD]; exact dk_empty s2.heap I2.big
  have lt : ∀ b ∈ fp, b < s2.heap.objs.size := fun b hb => let ⟨_, e, _⟩ := T.obj _ _ st2 b hb; Heap.lt_size e
  have f3 : ∀ b ∈ fp, FpOk X pins (upd H2 Dl (.dK [])) b ∧ b < s3.heap.objs.size := fun b hb =>
    ⟨⟨by rw [upd_ne (by rw [← hD]; exact Nat.ne_of_lt (lt b hb))]; exact (f2 b hb).1, (f2 b hb).2⟩, by rw [eh, Heap.size_push]; exact Nat.lt_succ_of_lt (lt b hb)⟩
  have I4 := block_start I3 ok hu.nd f3
  have st3 : tn 0 s3.heap := T.keep _ _ _ st2 fun b _ o e => by rw [eh]; exact Heap.get?_push_of_some _ e
  have relS := (rel1.wiped hp).resAdd nD (.dK [])
  have pg := hg s3 (upd H2 Dl (.dK [])) s3.heap.objs.size (cellsFrom (s3.heap.objs.size + 1) scope.names (cloFrom X.env.cells scope.names [])) fp
  have pi1 := hi1 s3 (upd H2 Dl (.dK [])) s3.heap.objs.size (cellsFrom (s3.heap.objs.size + 1) scope.names (cloFrom X.env.cells scope.names [])) fp
  have pg1 := hg1 s3 (upd H2 Dl (.dK [])) s3.heap.objs.size (cellsFrom (s3.heap.objs.size + 1) scope.names (cloFrom X.env.cells scope.names [])) fp
  have pk := hk s3 (upd H2 Dl (.dK [])) s3.heap.objs.size (cellsFrom (s3.heap.objs.size + 1) scope.names (cloFrom X.env.cells scope.names [])) fp
  have pv := he s3 (upd H2 Dl (.dK [])) s3.heap.objs.size (cellsFrom (s3.heap.objs.size + 1) scope.names (cloFrom X.env.cells scope.names [])) fp
  show codeAny _ _ (.compStart (.DictComp kx vx [⟨tg, iter, [], 0⟩, ⟨tg1, iter1, [], 0⟩] scope pos) 0 (.ref I0) (.ref Dl) (compEnvC scope (cellsFrom (s3.heap.objs.size + 1) scope.names (cloFrom X.env.cells scope.names [])) s3.heap.objs.size X.env)) (compPost (model X.prog X.w) X.A X.xe none (EP X pins σ Q) (.ref Dl) s3.heap.objs.size) { s3 with heap := pushCells (s3.heap.push { cls := .type "dict", data := .dict #[] }) scope.names }
  generalize hce : compEnvC scope (cellsFrom (s3.heap.objs.size + 1) scope.names (cloFrom X.env.cells scope.names [])) s3.heap.objs.size X.env = ce at I4 pg pi1 pg1 pk pv ⊢
  have cL : ce.locals = s3.heap.objs.size := by subst hce; rfl
  generalize hH3 : upd H2 Dl (.dK []) = H3 at I3 I4 pg pi1 pg1 pk pv f3 relS
  generalize hs4 : ({ s3 with heap := pushCells (s3.heap.push { cls := .type "dict", data := .dict #[] }) scope.names } : Shared) = s4 at I4 ⊢
  have st4 : tn 0 s4.heap := T.keep _ _ _ st3 fun b _ o e => by rw [← hs4]; exact pushCells_keeps _ _ _ _ (Heap.get?_push_of_some _ e)
  have b1 : BodyOk (GK X ex) (X.blk s3 H3 scope ce fp) Dl vs1 _ (putS sk s) := body_put (place := { kx.pos with endLine := vx.pos.endLine, endCol := vx.pos.endCol }) rfl pk pv
  have b0 : BodyOk (GK X ex) (X.blk s3 H3 scope ce fp) Dl (own.map (·.2)) _ (innS vs1 it1 g1 (putS sk s)) := body_inner (kx := kx) (vx := vx) (tg := tg) (iter := iter) (scope := scope) (pos := pos) hu.calm rfl pi1 pg1 (mem hjs1) (mem hv) (hs1 _) b1 fun _ => rfl
  have loop : codeAny (model X.prog X.w) X.A (.compLoop (.DictComp kx vx [⟨tg, iter, [], 0⟩, ⟨tg1, iter1, [], 0⟩] scope pos) 0 (.ref I0) (.ref Dl) ce) (compPost (model X.prog X.w) X.A X.xe none (EP X pins σ Q) (.ref Dl) s3.heap.objs.size) s4 := by
    refine clause_loop (X := X.blk s3 H3 scope ce fp) (G := GK X ex) (pins := []) (kvs := []) (dn := []) (spos := iter.pos) hu.calm rfl rfl pg (mem hjs) b0 T wipe_twice
      (fun b hb H hn => ⟨hn, (I4.ok.exf b hb).1, I4.ok.exfs b hb, .inl hb, fun x c e => (I4.ok.exf b hb).2 x c e, fun p hp => absurd hp (by simp)⟩) J1 (fun s' H' kvs' F' I6 n6 le6 rel6 k6 r6 => ?_) I4 st4 (fun b hb => (f3 b hb).1.1) (FLe.refl F1) relS .nil hgo
    have I7 : Inv X pins σ H' s' := I3.call' (ch := fp) I6.os I6.base I6.hok I6.bare fun b hb => let ⟨_, a, _, c, d, e⟩ := (f3 b hb).1; ⟨c, a, d, e⟩
    have nC : H' s3.heap.objs.size = none := by have z : H' ce.locals = none := I6.free; rw [cL] at z; exact z
    obtain ⟨m, hn, _⟩ := I6.loc
    have hn : s'.heap.Ns ce.locals m := hn
    rw [cL] at hn
    obtain ⟨z0, z1, z2, z3, z4, z5⟩ : FpOk X pins H' s3.heap.objs.size := I3.fpOk (Nat.le_refl _) nC
    obtain ⟨relD, n1, n2, lo⟩ := rel6.resDrop nR
    have relB := rel1.back (vs := own.map (·.2)) relD le6 hp
    have fin : Q (.ref Dl) H' := by
      refine qq Dl H' F' (le1.trans le6) relB ⟨n1, nR, _, n2, kvs', rfl, k6, r6⟩ fun i c d e1 e2 e3 => ?_
      have hlen : ρ1.length = ρe.length := by rw [rel1.len, relD.len, wipe_length]
      rw [(backE_get hlen _).2] at e1
      by_cases hi : i ∈ own.map (·.2)
      · rw [if_pos hi] at e1; rcases plain_at hp hi e1 with z | ⟨_, z⟩ <;> (subst z; cases e2)
      · rw [if_neg hi] at e1; exact lo i c d e1 e2 (by rw [wipe_get, if_neg hi]; exact e3)
    exact ⟨m, hn, fun h'' sb => ⟨.ref Dl, H', I7.turned (t' := s'.toks) (fun b o hb e => (sb.2 b hb).trans e) z0 z1 z3 z4 z5, rfl, fin⟩⟩
  exact codeAny_compStart_dict loop (T.self X.A 0 _ _ _ st4 loop)
end Dt

set_option Elab.async false
set_option linter.all false
set_option maxRecDepth 100000
set_option maxHeartbeats 4000000
/-! Defs as values and their calls, calls without arguments, zip of two lists, a dict display, a tuple assigned whose first item is a new object. -/
namespace Dt
open PySem PySem.Spec PyProof.Rows L2
/-- the def at f keeps its promise -/
structure CalA (P : Program) (w : World) (K : PySem.W.Frag) (mg : Str → Option Value) (base : Heap) (f : Addr) (k : Nat) (sp : Sp) : Prop where
  there : ∃ fd ps, FnOk P w K mg base (L2.CX P w) k f fd ps sp ∧ PySem.W.keepIn K (.ref f) = true ∧ Binds K fd ps []
theorem Cal.at_ {P : Program} {w : World} {K : PySem.W.Frag} {mg : Str → Option Value} {base : Heap} {x : Str} {j k : Nat} {sp : Sp} (C : Cal P w K mg base x j sp) (h : j ≤ k) (t : ∃ u, mg x = some u ∧ RelV (.ref (fnA K x)) u) : CalA P w K mg base (fnA K x) k sp := by
  obtain ⟨f, fd, ps, F, hm, hk, hb⟩ := C.there
  obtain ⟨u, e, r⟩ := t
  rw [hm] at e
  cases e
  have r : Value.ref f = Value.ref (fnA K x) := r
  cases r
  exact ⟨fd, ps, F.mono h, hk, hb⟩
abbrev FT := List (Str × Nat × (List D → FR))
def lookF : FT → Str → Option (Nat × (List D → FR))
  | [], _ => none
  | t :: r, x => if t.1 = x then some t.2 else lookF r x
theorem lookF_mem {L : FT} {x : Str} {z : Nat × (List D → FR)} (h : lookF L x = some z) : (x, z) ∈ L := by
  induction L with
  | nil => cases h
  | cons t r ih =>
    unfold lookF at h
    split at h
    · rename_i e; cases h; subst e; exact .head _
    · exact .tail _ (ih h)
def CalsA (G : Gx) (P : Program) (w : World) (mg : Str → Option Value) (base : Heap) (k : Nat) (L : FT) : Prop := ∀ t ∈ L, CalA P w G.K mg base (fnA G.K t.1) k (spP G t.2.1 t.2.2)
theorem ca_nil {G : Gx} {P : Program} {w : World} {mg : Str → Option Value} {base : Heap} {k : Nat} : CalsA G P w mg base k [] := fun _ h => nomatch h
theorem ca_cons {G : Gx} {P : Program} {w : World} {mg : Str → Option Value} {base : Heap} {k n : Nat} {x : Str} {g : List D → FR} {L : FT} (h : CalA P w G.K mg base (fnA G.K x) k (spP G n g)) (r : CalsA G P w mg base k L) : CalsA G P w mg base k ((x, n, g) :: L) := fun t ht => by
  rcases List.mem_cons.mp ht with rfl | ht
  · exact h
  · exact r t ht
section
variable {ex : String → Addr} {X : Cx} {W : WX} {e : Expr} {es : List Expr} {x : Str} {p pos : Pos} {k : Nat} {sA : SA}
/-- a def as a value -/
theorem callP_core {n : Nat} {g : List D → FR} {σ : L2.St} {H : Hp} {Q : VK} (h : tE (GK X ex) W (sCallP n g sA) σ H Q) : tA (GK X ex) W sA σ H fun vs H1 => spP (GK X ex) n g vs H1 Q (WE W σ) := by
  obtain ⟨ρ, F, Rv, io, rel, q⟩ := h
  refine ⟨ρ, F, Rv, io, rel, ?_⟩
  unfold sCallP at q
  cases e1 : sA ρ with
  | stuck => rw [e1] at q; exact q.elim
  | exc x ρ' => rw [e1] at q; exact q
  | ok ds ρ' =>
    rw [e1, R.bind_ok] at q
    intro vs H1 F1 le rel1 r
    by_cases hn : ds.length = n
    case neg => rw [if_neg hn] at q; exact q.elim
    rw [if_pos hn] at q
    refine ⟨ds, F1, restOf F1 H1 none, r.length.trans hn, restOf_apart rel1 none, r, ?_⟩
    cases e2 : g ds with
    | stuck => rw [e2] at q; exact q.elim
    | ok d o => rw [e2] at q; exact fun v H' F' le2 ap rp => q v H' F' (le.trans le2) (rel1.behind le2 ap) rp
    | exc x => rw [e2] at q; exact fun cls dd H' F' le2 ap xr => q cls dd σ H' F' (le.trans le2) (rel1.behind le2 ap) xr
/-- f(..) with f a variable -/
def sCallV (i : Nat) (L : FT) (s : SA) : SE := fun ρ => match ρ[i]? with
  | some (.fro (.fn nm)) => match lookF L nm with
    | some z => sCallP z.1 z.2 s ρ
    | none => .stuck
  | _ => .stuck
theorem d_callV {i : Nat} {L : FT} (hu : At X W) (hN : X.N[i]? = some x) (hv : Vis X.env.scope x) (C : CalsA (GK X ex) X.prog X.w X.mg X.base k L) (hr : Room k X.A) (ha : DA (GK X ex) X W (e :: es) sA)
    (hdb : (x == ("__debug__" : Str)) = false := by decide) (hcd : (x == ("__classdict__" : Str)) = false := by decide)
    (he : starEach (e :: es) X.env = (false, eval e X.env) :: starEach es X.env := by rfl) (hpl : (backTo pos (starEach es X.env)).any (·.1) = false := by rfl) : DE (GK X ex) X W (.Call (.Name x p) (e :: es) [] pos) (sCallV i L sA) := by
  refine ⟨fun pins s σ H Q I h => ?_⟩
  obtain ⟨ρ, F, Rv, io, rel, q⟩ := h
  unfold sCallV at q
  obtain ⟨nm, e1⟩ : ∃ nm, ρ[i]? = some (.fro (.fn nm)) := by
    cases e1 : ρ[i]? with
    | none => rw [e1] at q; exact q.elim
    | some c =>
      rw [e1] at q
      cases c with
      | fro d => cases d with
        | fn nm => exact ⟨nm, rfl⟩
        | _ => exact q.elim
      | _ => exact q.elim
  rw [e1] at q
  have q : match (match lookF L nm with | some z => sCallP z.1 z.2 sA ρ | none => .stuck : R D) with | .ok d ρ' => EPost (GK X ex) io Rv F σ ρ' d Q | .exc x ρ' => XPost (GK X ex) W io Rv F ρ' x | .stuck => False := q
  cases e2 : lookF L nm with
  | none => rw [e2] at q; exact q.elim
  | some z =>
    rw [e2] at q
    obtain ⟨v, es1, ok⟩ := rel.slot e1
    obtain ⟨y, rfl, rp⟩ := ok
    cases rp
    obtain ⟨fd, ps, FF, hk, hb⟩ := (C _ (lookF_mem e2)).there
    refine wpAny_Call_Name_kw (thn ((pe_var (pos := p) hN hv hdb hcd).run pins s σ H (fun v H1 => v = .ref (fnA X.K nm) ∧ H1 = H) I ⟨_, es1, rfl, rfl⟩) fun u s1 ⟨v, H1, I1, r1, q1⟩ => ?_)
    obtain ⟨rfl, rfl⟩ := q1
    cases r1
    refine PySem.W.callWith_K (h₀ := X.base) I.ok.mod.kin hk (thn (ha.run pos pins s1 σ _ _ I1 (callP_core ⟨ρ, F, Rv, io, rel, q⟩)) fun us s2 ⟨vs, H2, I2, r, q⟩ => ⟨I2.kIn, ?_⟩) he hpl
    exact run_fnS FF hr hb (passAt hu.tk σ) I2 r q
/-- f() -/
theorem d_call0 {g : List D → FR} (hu : At X W) (C : Cal X.prog X.w X.K X.mg X.base x k (spP (GK X ex) 0 g)) (hr : Room k X.A) (hg : Gl X x) (hdb : (x == ("__debug__" : Str)) = false := by decide) : DE (GK X ex) X W (.Call (.Name x p) [] [] pos) (sCallP 0 g sNil) := by
  refine ⟨fun pins s σ H Q I h => ?_⟩
  obtain ⟨f, fd, ps, F, hm, hk, hb⟩ := C.there
  refine wpAny_Call_Name_kw (ld_glob I hg hm (PySem.W.callWith_K0 I.kIn hk (run_fnS (us := []) F hr hb (passAt hu.tk σ) I .nil ?_)) hdb)
  obtain ⟨ρ, F1, Rv, io, rel, q⟩ := callP_core h
  exact q [] H F1 (FLe.refl _) rel .nil
/-! ### zip(a, b) of two lists -/
def pairUp (xs ys : List D) : List D := List.zipWith (fun x y => .arg [x, y]) xs ys
theorem iter_zip {K : PySem.W.Frag} {F : Hp} {a b : Addr} {vs ws : List V} {xs ys : List D} (ha : F a = some (.lst vs)) (hb : F b = some (.lst ws)) (rx : Rps K F vs xs) (ry : Rps K F ws ys) : IterOk K (Itz K a b) F (pairUp xs ys) := by
  have at1 : ∀ {F1 H : Hp}, FLe F F1 → FLe F1 H → SqL K H a vs := fun h1 h2 => SqL.of (h2 _ _ (h1 _ _ ha))
  have at2 : ∀ {F1 H : Hp}, FLe F F1 → FLe F1 H → SqL K H b ws := fun h1 h2 => SqL.of (h2 _ _ (h1 _ _ hb))
  have lx := rx.length
  have ly := ry.length
  refine ⟨fun i F1 H h1 h2 hi => ?_, fun F1 H h1 h2 => ⟨vs, ws, at1 h1 h2, at2 h1 h2, ?_⟩, fun i F1 H H' x d h1 h2 e y => ?_⟩
  · unfold pairUp at hi
    rw [List.length_zipWith] at hi
    exact ⟨vs, ws, vs[i]'(by omega), ws[i]'(by omega), at1 h1 h2, at2 h1 h2, by simp [show i < vs.length by omega], by simp [show i < ws.length by omega]⟩
  · unfold pairUp
    rw [List.length_zipWith]
    omega
  · obtain ⟨T, v, w, rfl, hT, rfl, g1, g2⟩ := y
    unfold pairUp at e
    rw [List.getElem?_zipWith] at e
    cases ex : xs[i]? with
    | none => rw [ex] at e; cases e
    | some dx =>
      cases ey : ys[i]? with
      | none => rw [ex, ey] at e; cases e
      | some dy =>
        rw [ex, ey] at e
        cases e
        obtain ⟨v', e1, r1⟩ := rx.get ex
        obtain ⟨w', e2, r2⟩ := ry.get ey
        have e3 := g1 vs (at1 h1 h2)
        have e4 := g2 ws (at2 h1 h2)
        rw [e1] at e3; cases e3
        rw [e2] at e4; cases e4
        have n := New.obj h2 hT (.tup [v, w])
        exact ⟨_, n, .arg (.inl (.inl upd_same)) (.cons (r1.mono (h1.trans n.f)) (.cons (r2.mono (h1.trans n.f)) .nil))⟩
def zipD : List D → Option (List D)
  | [.lst xs, .lst ys] => some (pairUp xs ys)
  | _ => none
theorem zipD_some {ds zs : List D} (h : zipD ds = some zs) : ∃ xs ys, ds = [.lst xs, .lst ys] ∧ zs = pairUp xs ys := by
  unfold zipD at h
  split at h
  · cases h; exact ⟨_, _, rfl, rfl⟩
  · cases h
def iZipS (s : SA) : SA := fun ρ => (s ρ).bind fun ds ρ' => ofO (zipD ds) ρ'
@[simp] theorem ev_iZip (s : SA) (ρ : Env) : iZipS s ρ = (s ρ).bind fun ds ρ' => ofO (zipD ds) ρ' := rfl
theorem d_iZip {e2 : Expr} {elts : List Expr} {kk : Nat} {tpos : Pos} (hg : Gl X "zip") (hm : X.mg "zip" = none) (ha : DA (GK X ex) X W [e, e2] sA) (hs : starEach [e, e2] X.env = (false, eval e X.env) :: starEach [e2] X.env := by rfl) (hpl : (backTo pos (starEach [e2] X.env)).any (·.1) = false := by rfl) :
    DI (GK X ex) X W (.Tuple elts kk tpos) (.Call (.Name "zip" p) [e, e2] [] pos) (iZipS sA) :=
  wkI (pi_zip hg hm ha hs hpl) fun σ H Q ⟨ρ, F, Rv, io, rel, q⟩ => by
    refine ⟨ρ, F, Rv, io, rel, ?_⟩
    unfold iZipS at q
    cases e1 : sA ρ with
    | stuck => rw [e1] at q; exact q.elim
    | exc x ρ' => rw [e1] at q; exact q
    | ok ds ρ' =>
      rw [e1, R.bind_ok] at q
      intro vs H' F' le rel' rs
      cases e3 : zipD ds with
      | none => rw [e3] at q; exact q.elim
      | some zs =>
        rw [e3] at q
        obtain ⟨xs, ys, rfl, rfl⟩ := zipD_some e3
        obtain ⟨v1, v2, rfl, r1, r2⟩ : ∃ v1 v2, vs = [v1, v2] ∧ Rp X.K F' v1 (.lst xs) ∧ Rp X.K F' v2 (.lst ys) := by
          cases rs with
          | cons r1 rs =>
            cases rs with
            | cons r2 rs => cases rs; exact ⟨_, _, rfl, r1, r2⟩
        obtain ⟨a, vs, rfl, t1, q1⟩ : ∃ a vs, v1 = .ref a ∧ F' a = some (.lst vs) ∧ Rps X.K F' vs xs := by cases r1; exact ⟨_, _, rfl, by assumption, by assumption⟩
        obtain ⟨b, ws, rfl, t2, q2⟩ : ∃ a vs, v2 = .ref a ∧ F' a = some (.lst vs) ∧ Rps X.K F' vs ys := by cases r2; exact ⟨_, _, rfl, by assumption, by assumption⟩
        exact ⟨a, b, vs, ws, rfl, SqL.of (rel'.fH _ _ t1), SqL.of (rel'.fH _ _ t2), q _ H' F' le rel' (iter_zip t1 t2 q1 q2)⟩
/-! ### {k: v, ..} -/
def sPairs : List (SE × SE) → Env → R (List (Key × D))
  | [], ρ => .ok [] ρ
  | t :: r, ρ => (t.1 ρ).bind fun kd ρ1 => (t.2 ρ1).bind fun d ρ2 => match keyOf kd with
    | none => .stuck
    | some k => (sPairs r ρ2).bind fun l ρ3 => .ok ((k, d) :: l) ρ3
def putAll (l : List (Key × D)) (acc : List Key × List D) : List Key × List D := l.foldl (fun acc kd => dPut acc.1 acc.2 kd.1 kd.2) acc
def sDisp (l : List (SE × SE)) : SE := fun ρ => (noX (sPairs l ρ)).bind fun l ρ' => if l.length ≤ 15 then .ok (.dct (putAll l ([], [])).1 (putAll l ([], [])).2) ρ' else .stuck
@[simp] theorem ev_pairs0 (ρ : Env) : sPairs [] ρ = .ok [] ρ := rfl
@[simp] theorem ev_pairs1 (t : SE × SE) (r : List (SE × SE)) (ρ : Env) : sPairs (t :: r) ρ = (t.1 ρ).bind fun kd ρ1 => (t.2 ρ1).bind fun d ρ2 => match keyOf kd with
    | none => .stuck
    | some k => (sPairs r ρ2).bind fun l ρ3 => .ok ((k, d) :: l) ρ3 := rfl
@[simp] theorem ev_disp (l : List (SE × SE)) (ρ : Env) : sDisp l ρ = (noX (sPairs l ρ)).bind fun l ρ' => if l.length ≤ 15 then .ok (.dct (putAll l ([], [])).1 (putAll l ([], [])).2) ρ' else .stuck := rfl
theorem pairs_core {G : Gx} {io : Io} {Rv : Hp} {σ : L2.St} : ∀ {l : List (SE × SE)} {ρ ρ' : Env} {F H : Hp} {kds : List (Key × D)} {Q : List (V × V) → Hp → Prop}, Rel G.K io Rv ρ F σ H → sPairs l ρ = .ok kds ρ' →
    (∀ (kvs : List (Key × V)) (H' F' : Hp), FLe F F' → Rel G.K io Rv ρ' F' σ H' → kvs.map (·.1) = kds.map (·.1) → Rps G.K F' (kvs.map (·.2)) (kds.map (·.2)) → Q (kvs.map fun kv => (kV kv.1, kv.2)) H') → tPairs (l.map fun t => (tE G W t.1, tE G W t.2)) σ H Q
  | [], ρ, ρ', F, H, kds, Q, rel, e, q => by
    cases e
    exact q [] H F (FLe.refl F) rel rfl .nil
  | t :: r, ρ, ρ', F, H, kds, Q, rel, e, q => by
    rw [ev_pairs1] at e
    refine ⟨ρ, F, Rv, io, rel, ?_⟩
    cases e1 : t.1 ρ with
    | stuck => rw [e1] at e; cases e
    | exc x ρ1 => rw [e1] at e; cases e
    | ok kd ρ1 =>
      rw [e1, R.bind_ok] at e
      intro x H1 F1 le1 rel1 rp1
      refine ⟨ρ1, F1, Rv, io, rel1, ?_⟩
      cases e2 : t.2 ρ1 with
      | stuck => rw [e2] at e; cases e
      | exc x ρ1 => rw [e2] at e; cases e
      | ok d ρ2 =>
        rw [e2, R.bind_ok] at e
        cases e3 : keyOf kd with
        | none => rw [e3] at e; cases e
        | some key =>
          rw [e3] at e
          intro y H2 F2 le2 rel2 rp2
          have ek := keyOf_vw (H := H1) (.inl rp1) e3
          subst ek
          cases e4 : sPairs r ρ2 with
          | stuck => rw [e4] at e; cases e
          | exc x ρ1 => rw [e4] at e; cases e
          | ok l4 ρ4 =>
            rw [e4] at e
            cases e
            exact pairs_core rel2 e4 fun kvs H' F' le rel' k' r' => q ((key, y) :: kvs) H' F' ((le1.trans le2).trans le) rel' (by simp [k']) (.cons (rp2.mono le) r')
theorem merge_put {K : PySem.W.Frag} {F : Hp} : ∀ {kds : List (Key × D)} {kvs acc : List (Key × V)} {da : List D}, kvs.map (·.1) = kds.map (·.1) → Rps K F (kvs.map (·.2)) (kds.map (·.2)) → Rps K F (acc.map (·.2)) da →
    (mergeK acc kvs).map (·.1) = (putAll kds (acc.map (·.1), da)).1 ∧ Rps K F ((mergeK acc kvs).map (·.2)) (putAll kds (acc.map (·.1), da)).2
  | [], [], acc, da, _, _, ra => ⟨rfl, ra⟩
  | [], _ :: _, _, _, e, _, _ => by simp at e
  | _ :: _, [], _, _, e, _, _ => by simp at e
  | kd :: kds, kv :: kvs, acc, da, e, r, ra => by
    rw [List.map_cons, List.map_cons] at e
    obtain ⟨e1, e2⟩ := List.cons.inj e
    cases r with
    | cons r1 r2 =>
      obtain ⟨k1, k2⟩ := dPut_put (k := kv.1) r1 ra
      obtain ⟨h1, h2⟩ := merge_put (acc := putK acc kv.1 kv.2) e2 r2 k2
      have e3 : putAll (kd :: kds) (acc.map (·.1), da) = putAll kds ((putK acc kv.1 kv.2).map (·.1), (dPut (acc.map (·.1)) da kv.1 kd.2).2) := by
        show putAll kds (dPut (acc.map (·.1)) da kd.1 kd.2) = _
        have k1' : (putK acc kv.1 kv.2).map (·.1) = (dPut (acc.map (·.1)) da kv.1 kd.2).1 := k1
        rw [← e1, k1']
      rw [e3]
      exact ⟨h1, h2⟩
theorem d_dispF {keys : List (Option Expr)} {values : List Expr} {l : List (SE × SE)} (h : PPs X pos keys values (l.map fun t => (tE (GK X ex) W t.1, tE (GK X ex) W t.2))) (hall : keys.all (·.isSome) = true := by rfl) (hl : keys.length = values.length := by rfl) (h0 : keys ≠ [] := by simp)
    (h15 : keys.length ≤ 15 := by decide) : DF (GK X ex) X W (.Dict keys values pos) (sDisp l) := wkE (pe_disp h hall hl h0 h15) fun σ H Q ⟨ρ, F, Rv, io, rel, q⟩ => by
  rw [ev_disp] at q
  intro p hp
  cases e : sPairs l ρ with
  | stuck => rw [e] at q; exact q.elim
  | exc x ρ' => rw [e] at q; exact q.elim
  | ok kds ρ' =>
    rw [e] at q
    have q : match (if kds.length ≤ 15 then R.ok (.dct (putAll kds ([], [])).1 (putAll kds ([], [])).2) ρ' else .stuck : R D) with | .ok d ρ' => ∀ p H' F', FLe F F' → Rel X.K io Rv ρ' F' σ H' → OwnAt X.K F' Rv H' p d → Loose ρ' σ p → Q (.ref p) H' | .exc x ρ' => XPost (GK X ex) W io Rv F ρ' x | .stuck => False := q
    by_cases h5 : kds.length ≤ 15
    case neg => rw [if_neg h5] at q; exact q.elim
    rw [if_pos h5] at q
    have nR : Rv p = none := rel.rH.noneOf hp
    refine pairs_core (rel.resAdd hp (.dK [])) e fun kvs H2 F2 le rel2 k2 r2 => ⟨rel2.rH p _ upd_same, kvs, rfl, ?_, ?_⟩
    · have := congrArg List.length k2
      rw [List.length_map, List.length_map] at this
      omega
    · obtain ⟨relD, n1, n2, lo⟩ := (rel2.resPut (o' := .dK (mergeK [] kvs))).resDrop nR
      obtain ⟨m1, m2⟩ := merge_put (acc := []) k2 r2 .nil
      exact q p _ F2 le relD ⟨n1, nR, _, n2, _, rfl, m1, m2⟩ lo
/-! ### a, b, .. = [..], x, ..: the first is a new object -/
theorem Rel.keep {K : PySem.W.Frag} {io : Io} {Rv F : Hp} {ρ : Env} {σ : L2.St} {H : Hp} (r : Rel K io Rv ρ F σ H) {p : Addr} {o : HO} {d : D} (e : H p = some o) (ob : OwnObj K F p o d) (nF : F p = none) (lo : Loose ρ σ p) : Rel K io (L2.upd Rv p o) ρ F σ H := by
  refine ⟨r.fH, fun a u h => ?_, fun a u h => ?_, r.len, fun i c v e1 e2 => ?_, r.inj, r.ios, r.ioc, fun t ht => let q := r.tab t ht; let ⟨ps, ep⟩ := q.tbl; q.mv q.1 (by rw [upd_ne (own_ne (R := fun _ => none) ⟨nF, rfl, o, e, ob⟩ ep)]; exact q.2.1) (fun _ e => e) (FLe.refl F)⟩
  · by_cases z : a = p
    · subst z; rw [upd_same] at h; cases h; exact e
    · rw [upd_ne z] at h; exact r.rH a u h
  · rw [upd_ne (fun z => by subst z; rw [nF] at h; cases h)]
    exact r.dj a u h
  · have q := r.cell i c v e1 e2
    have own : ∀ {p' d}, v = some (.ref p') → c.held = some d → OwnAt K F Rv H p' d → OwnAt K F (L2.upd Rv p o) H p' d := fun {p' d} hv hh w =>
      ⟨w.nF, by rw [upd_ne (fun z => lo i c d e1 hh (by subst z; subst hv; exact e2))]; exact w.nR, w.at_⟩
    cases c with
    | no => trivial
    | fro d => exact q
    | own d => obtain ⟨p', e3, w⟩ := q; exact ⟨p', e3, own e3 rfl w⟩
    | io d => obtain ⟨p', e3, w⟩ := q; exact ⟨p', e3, own e3 rfl w⟩
def sAsgF (i n : Nat) (sF : SE) (s : SA) (gs : SGs) : SS := fun ρ => (sF ρ).bind fun d ρ1 => (s ρ1).bind fun ds ρ2 => if ds.length + 1 = n ∧ n ≤ 100 then (gOwn i d ρ2).bind fun _ ρ3 => (gs ds ρ3).bind fun _ ρ4 => .ok .nx ρ4 else .stuck
@[simp] theorem ev_asgF (i n : Nat) (sF : SE) (s : SA) (gs : SGs) (ρ : Env) : sAsgF i n sF s gs ρ = (sF ρ).bind fun d ρ1 => (s ρ1).bind fun ds ρ2 => if ds.length + 1 = n ∧ n ≤ 100 then (gOwn i d ρ2).bind fun _ ρ3 => (gs ds ρ3).bind fun _ ρ4 => .ok .nx ρ4 else .stuck := rfl
theorem d_asgF {i n kk k2 : Nat} {tp vp np : Pos} {ts : List Expr} {sF : SE} {gs : SGs} {js : List Nat} (hu : At X W) (hi : X.N[i]? = some x) (hx : Loc X.env.scope x) (hf : DF (GK X ex) X W e sF) (ha : DA (GK X ex) X W es sA) (hg : DGs (GK X ex) X W js ts gs)
    (he : starEach (e :: es) X.env = (false, eval e X.env) :: starEach es X.env := by rfl) (hn : (assignEach (.Name x np :: ts) X.env).length = n := by rfl) (hst : (assignEach (.Name x np :: ts) X.env).findIdx? (·.1) = none := by rfl)
    (ht : (assignEach (.Name x np :: ts) X.env).map (·.2) = assign (.Name x np) X.env :: (assignEach ts X.env).map (·.2) := by rfl) (hff : X.fn x = true ∨ X.env.scope.names.lookup x = some .local := by first | exact .inl rfl | exact .inr rfl | assumption)
    (hs : swapsWithSole [.Tuple (.Name x np :: ts) kk tp] (.Tuple (e :: es) k2 vp) pos.line X.env = pure false := by rfl) (hw : swappedStores [.Tuple (.Name x np :: ts) kk tp] (.Tuple (e :: es) k2 vp) X.env = pure none := by rfl)
    (h1 : (assignEach [.Tuple (.Name x np :: ts) kk tp] X.env).map (·.2) = [assign (.Tuple (.Name x np :: ts) kk tp) X.env] := by rfl) :
    DS (GK X ex) X W (.Assign [.Tuple (.Name x np :: ts) kk tp] (.Tuple (e :: es) k2 vp) pos) (sAsgF i n sF sA gs) :=
  wkS (ps_asg (pe_tupZ (pa_cons hf ha he)) (pg_tup hu.calm (pgs_cons (pg_name hu.nd hi hx hff) hg ht) hn hst) hs hw h1) fun D σ H ⟨ρ, F, Rv, io, rel, q⟩ => by
    rw [ev_asgF] at q
    refine ⟨ρ, F, Rv, io, rel, ?_⟩
    cases e1 : sF ρ with
    | stuck => rw [e1] at q; exact q.elim
    | exc x ρ1 => rw [e1] at q; exact q
    | ok d ρ1 =>
      rw [e1, R.bind_ok] at q
      intro p H1 F1 le1 rel1 ow lo
      obtain ⟨o, ho, oo⟩ := ow.at_
      refine ⟨ρ1, F1, _, io, rel1.keep ho oo ow.nF lo, ?_⟩
      cases e2 : sA ρ1 with
      | stuck => rw [e2] at q; exact q.elim
      | exc x ρ2 => rw [e2] at q; exact fun cls dd σ' H' F' le rel' xr => q cls dd σ' H' F' (le1.trans le) (rel'.resDrop ow.nR).1 xr
      | ok ds ρ2 =>
        rw [e2, R.bind_ok] at q
        intro vs H2 F2 le2 rel2 rs
        obtain ⟨relD, n1, n2, lo2⟩ := rel2.resDrop ow.nR
        by_cases hl : ds.length + 1 = n ∧ n ≤ 100
        case neg => rw [if_neg hl] at q; exact q.elim
        rw [if_pos hl] at q
        have lv := rs.length
        refine ⟨line_pos (by rw [List.length_cons]; omega), fun t ob ht' hod => ⟨t, V.ref p :: vs, rfl, .inl (.inr ⟨ob, upd_same⟩), by rw [List.length_cons]; omega, V.ref p, vs, rfl, ?_⟩⟩
        cases e3 : gOwn i d ρ2 with
        | stuck => rw [e3] at q; exact q.elim
        | exc x ρ3 => unfold gOwn at e3; split at e3 <;> cases e3
        | ok u ρ3 =>
          rw [e3, R.bind_ok] at q
          obtain ⟨hio, rfl⟩ := gOwn_ok e3
          have relT := relD.newH ht' (.frz ob (.tup (V.ref p :: vs)))
          have pt : p ≠ t := fun z => by subst z; rw [n2] at ht'; cases ht'
          have relS := relT.setOwn (i := i) (p := p) (d := d) ⟨n1, ow.nR, o, by rw [upd_ne pt]; exact n2, oo.mono le2⟩ lo2 hio
          show tGs (GK X ex) W js gs vs (σ.set i (some (.ref p))) _ _
          refine ⟨ds, ρ2.set i (.own d), F2, Rv, io, relS, rs, ?_⟩
          cases e4 : gs ds (ρ2.set i (.own d)) with
          | stuck => rw [e4] at q; exact q.elim
          | exc x ρ4 => rw [e4] at q; exact XPost.le q (le1.trans le2)
          | ok u ρ4 => rw [e4] at q; exact fun σ' H' F' le rel' _ => q σ' H' F' ((le1.trans le2).trans le) rel'
end
end Dt

set_option Elab.async false
set_option linter.all false
set_option maxRecDepth 100000
set_option maxHeartbeats 4000000
/-! Tuples of the module, d.update(e), sorted texts, zip of two tuples. -/
namespace Dt
open PySem PySem.Spec PyProof.Rows L2 RZ
section
variable {ex : String → Addr} {X : Cx} {W : WX} {e o : Expr} {es : List Expr} {x : Str} {p pos : Pos} {sA : SA} {ea : SE}
/-- a tuple of the module -/
theorem d_globT {vs : List V} {ds : List D} (hg : Gl X x) (hm : ∃ a, X.mg x = some (.ref a) ∧ ∀ F, SqT X.K F a vs) (rp : ∀ F, Rps X.K F vs ds) (hd : (x == ("__debug__" : Str)) = false := by decide) : DE (GK X ex) X W (.Name x p) (sCst (.arg ds)) :=
  let ⟨a, h1, h2⟩ := hm
  d_glob (v := .ref a) hg ⟨_, h1, rfl⟩ (fun F => .arg (h2 F) (rp F)) hd
/-! ### d.update(e) -/
def rDUpd : V → List V → Hp → VK → Prop := fun x xs H Q => ∃ (a b : Addr) (kvs more : List (Key × V)), x = .ref a ∧ xs = [.ref b] ∧ a ≠ b ∧ H a = some (.dK kvs) ∧ Rd H b (.dK more) ∧ kvs.length + more.length ≤ sizeLine ∧ Q .non (L2.upd H a (.dK (mergeK kvs more)))
theorem mt_dupd : MtR X "dict.update" rDUpd := by
  intro pins s σ H x xs v us Q I rx rv ⟨a, b, kvs, more, ex, exs, ne, ha, hb, hz, q⟩
  subst ex exs
  cases rx
  obtain ⟨u, rfl, ru⟩ := rv.one
  cases ru
  obtain ⟨z1, s1, vs, r1, d1⟩ := dk_of I.hok ha
  obtain ⟨z2, s2, ws, r2, d2⟩ := dk_rd I.hok hb
  refine call_meetsIn PySem.F.slot_dict_update d1.typeIs PySem.F.entry_dict_update (PySem.F.args_dict_update_2 _ _) (meets_dict_update (mixKind X.prog X.w) a b ne s2) ⟨vs, ws, d1, d2, by rw [← r1.length, ← r2.length]; exact hz, fun h' dd _ hs => ?_⟩
  refine ⟨.non, _, d_write (t' := s.toks) I (by rw [ha]; exact True.intro) hs (let ⟨q, _, _, hq, _⟩ := dd; ⟨q, hq⟩) (dk_new (Nat.le_trans (length_mergeK more kvs) hz) s1 (r2.merge r1) dd), rfl, q⟩
def dctOf : Option D → Option (List Key × List D)
  | some (.dct ks ds) => some (ks, ds)
  | _ => none
theorem dctOf_some {o : Option D} {z : List Key × List D} (h : dctOf o = some z) : o = some (.dct z.1 z.2) := by
  unfold dctOf at h
  split at h
  · cases h; rfl
  · cases h
/-- the variable at i is a dict of its own; what is put in is a dict that is data -/
def sDUpd (i : Nat) (s : SE) : SE := fun ρ => match dctOf (held ρ i) with
  | none => .stuck
  | some _ => (s ρ).bind fun d ρ' => match dctOf (held ρ' i), dctOf (some d) with
    | some a, some b => if a.1.length + b.1.length ≤ sizeLine then .ok .non (put ρ' i (.dct (putAll (b.1.zip b.2) a).1 (putAll (b.1.zip b.2) a).2)) else .stuck
    | _, _ => .stuck
@[simp] theorem ev_dupd (i : Nat) (s : SE) (ρ : Env) : sDUpd i s ρ = match dctOf (held ρ i) with
  | none => .stuck
  | some _ => (s ρ).bind fun d ρ' => match dctOf (held ρ' i), dctOf (some d) with
    | some a, some b => if a.1.length + b.1.length ≤ sizeLine then .ok .non (put ρ' i (.dct (putAll (b.1.zip b.2) a).1 (putAll (b.1.zip b.2) a).2)) else .stuck
    | _, _ => .stuck := rfl
@[simp] theorem dctOf_dct (ks : List Key) (ds : List D) : dctOf (some (.dct ks ds)) = some (ks, ds) := rfl
theorem dupd_core {i : Nat} {σ : L2.St} {H : Hp} {Q : VK} (h : tE (GK X ex) W (sDUpd i ea) σ H Q) : tBM X.K "dict" rDUpd (tVar i) (tA (GK X ex) W (sCons ea sNil)) σ H Q := by
  obtain ⟨ρ, F, Rv, io, rel, q⟩ := h
  rw [ev_dupd] at q
  cases e1 : dctOf (held ρ i) with
  | none => rw [e1] at q; exact q.elim
  | some z0 =>
    rw [e1] at q
    obtain ⟨p, ob, e2, e3, e4, _⟩ := put_own (G := GK X ex) (d' := .dct z0.1 z0.2) rel (dctOf_some e1)
    obtain ⟨kvs0, rfl, _, _⟩ := e4
    refine ⟨_, e2, .inr (.inr (.inl ⟨rfl, .inl ⟨_, e3⟩⟩)), ρ, F, Rv, io, rel, ?_⟩
    unfold sCons
    cases e5 : ea ρ with
    | stuck => rw [e5] at q; exact q.elim
    | exc x ρ' => rw [e5] at q; exact q
    | ok d ρ' =>
      rw [e5] at q
      rw [R.bind_ok] at q ⊢
      intro xs H' F' le rel' rx
      cases e6 : dctOf (held ρ' i) with
      | none => rw [e6] at q; exact q.elim
      | some a =>
        cases e7 : dctOf (some d) with
        | none => rw [e6, e7] at q; exact q.elim
        | some b =>
          rw [e6, e7] at q
          have q : match (if a.1.length + b.1.length ≤ sizeLine then R.ok .non (put ρ' i (.dct (putAll (b.1.zip b.2) a).1 (putAll (b.1.zip b.2) a).2)) else .stuck : R D) with | .ok d ρ' => EPost (GK X ex) io Rv F σ ρ' d Q | .exc x ρ' => XPost (GK X ex) W io Rv F ρ' x | .stuck => False := q
          by_cases hz : a.1.length + b.1.length ≤ sizeLine
          case neg => rw [if_neg hz] at q; exact q.elim
          rw [if_pos hz] at q
          obtain rfl := Option.some.inj (dctOf_some e7)
          obtain ⟨p', ob', e9, e10, e11, e12⟩ := put_own (G := GK X ex) (d' := .dct (putAll (b.1.zip b.2) a).1 (putAll (b.1.zip b.2) a).2) rel' (dctOf_some e6)
          rw [e2] at e9
          cases e9
          obtain ⟨kvs, rfl, k1, r1⟩ := e11
          cases rx with
          | @cons rvv _ _ _ rv rs =>
            cases rs
            obtain ⟨b1, kvs2, od, rfl, hb, k2, r2⟩ : ∃ (b1 : Addr) (kvs2 : List (Key × V)) (od : Obj), rvv = V.ref b1 ∧ F' b1 = some (.frz od (.dK kvs2)) ∧ kvs2.map (·.1) = b.1 ∧ Rps X.K F' (kvs2.map (·.2)) b.2 := by
              obtain ⟨bk, bd⟩ := b
              generalize hd : D.dct bk bd = dd at rv
              cases rv with
              | dct t r => cases hd; exact ⟨_, _, _, rfl, t, rfl, r⟩
              | _ => cases hd
            have ne : p ≠ b1 := fun z => by subst z; rw [rel'.fH _ _ hb] at e10; cases e10
            have l1 : kvs.length = a.1.length := by rw [← k1, List.length_map]
            have l2 : kvs2.length = b.1.length := by rw [← k2, List.length_map]
            have lb : b.2.length = b.1.length := by have := r2.length; rw [List.length_map] at this; omega
            refine ⟨p, b1, kvs, kvs2, rfl, rfl, ne, e10, .inr ⟨_, rel'.fH _ _ hb⟩, by rw [l1, l2]; exact hz, q _ _ F' le (e12 _ ⟨_, rfl, ?_⟩) .non⟩
            have m := merge_put (K := X.K) (F := F') (kds := b.1.zip b.2) (kvs := kvs2) (acc := kvs) (da := a.2) (by rw [List.map_fst_zip (Nat.le_of_eq lb.symm)]; exact k2) (by rw [List.map_snd_zip (Nat.le_of_eq lb)]; exact r2) r1
            rw [k1] at m
            exact m
theorem d_dupd {i : Nat} {apos cpos : Pos} (ho : PE X o (tVar i)) (ha : DE (GK X ex) X W e ea) (hbase : attributeBase o "update" X.env (eval o X.env) = eval o X.env := by rfl)
    (hfew : ((backTo cpos (starEach (e :: []) X.env)).all (fun x => !x.1) && (backToKw cpos (keywordEach [] X.env)).all (fun x => x.1.isSome)
      && decide ((e :: ([] : List Expr)).length + ([] : List Keyword).length + (if ([] : List Keyword).isEmpty then 0 else 1) < 30)) = true := by rfl)
    (hline : (apos.endLine == cpos.line) = true := by rfl) (hs : starEach (e :: []) X.env = (false, eval e X.env) :: starEach [] X.env := by rfl) (hplain : (backTo cpos (starEach [] X.env)).any (·.1) = false := by rfl) :
    DE (GK X ex) X W (.Call (.Attribute o "update" apos) (e :: []) [] cpos) (sDUpd i ea) :=
  wkE (pe_bm PySem.F.plainAttrs_dict PySem.F.slot_dict_update PySem.F.type_dict_update mt_dupd ho (d_cons ha d_nil hs) hbase hfew hline hs hplain) fun σ H Q h => dupd_core h
/-! ### sorted(xs), texts that stand in order -/
def strsOf : List D → Option (List Str)
  | [] => some []
  | .str z :: ds => (strsOf ds).map fun r => z :: r
  | _ => none
def rises : List Str → Bool
  | x :: y :: r => sLt x y && rises (y :: r)
  | _ => true
def gSorted : List D → Option D
  | [.lst ds] => (strsOf ds).bind fun xs => if xs.length < 64 ∧ rises xs = true then some (.lst ds) else none
  | _ => none
theorem strs_vw {K : PySem.W.Frag} {F : Hp} : ∀ {vs : List V} {ds : List D} {xs : List Str}, Rps K F vs ds → strsOf ds = some xs → vs = xs.map V.str
  | _, _, _, .nil, e => by cases e; rfl
  | _, _, _, .cons (d := d) (ds := ds) a b, e => by
    cases a with
    | str z =>
      simp only [strsOf] at e
      cases e1 : strsOf ds with
      | none => rw [e1] at e; cases e
      | some r => rw [e1] at e; cases e; rw [strs_vw b e1]; rfl
    | _ => simp only [strsOf] at e; cases e
theorem rises_all : ∀ {x : Str} {r : List Str}, rises (x :: r) = true → ∀ y ∈ r, x.cps.toList < y.cps.toList
  | x, y :: r, h, z, hz => by
    unfold rises at h
    rw [Bool.and_eq_true] at h
    have h1 : x.cps.toList < y.cps.toList := of_decide_eq_true h.1
    rcases List.mem_cons.mp hz with rfl | hz
    · exact h1
    · exact List.lt_trans h1 (rises_all h.2 z hz)
theorem rises_pair : ∀ {xs : List Str}, rises xs = true → xs.Pairwise fun a b => ¬ b.cps.toList < a.cps.toList
  | [], _ => .nil
  | [x], _ => List.pairwise_singleton _ _
  | x :: y :: r, h => by
    have h' := h
    unfold rises at h
    rw [Bool.and_eq_true] at h
    exact .cons (fun z hz => List.lt_asymm (rises_all h' z hz)) (rises_pair h.2)
theorem rising_pair : ∀ {x : Str} {r : List Str}, risingS x r = true → (x :: r).Pairwise fun a b => ¬ b.cps.toList < a.cps.toList
  | x, [], _ => List.pairwise_singleton _ _
  | x, y :: r, h => by
    unfold risingS at h
    rw [Bool.and_eq_true, ltCps_eq] at h
    have h1 : ¬ y.cps.toList < x.cps.toList := by simpa using h.1
    have ih := rising_pair h.2
    refine .cons (fun z hz => ?_) ih
    rcases List.mem_cons.mp hz with rfl | hz
    · exact h1
    · have h2 := (List.pairwise_cons.mp ih).1 z hz
      exact fun h3 => h1 (Std.lt_of_le_of_lt (List.not_lt.mp h2) h3)
theorem sorted_same {xs ys : List Str} (p : ys.Perm xs) (hy : sortedS ys = true) (hx : rises xs = true) : ys = xs := by
  refine List.Perm.eq_of_pairwise (le := fun a b => ¬ b.cps.toList < a.cps.toList) (fun a b _ _ h1 h2 => ?_) ?_ (rises_pair hx) p
  · have : a.cps.toList = b.cps.toList := List.le_antisymm (List.not_lt.mp h1) (List.not_lt.mp h2)
    cases a; cases b
    simp only at this
    congr 1
    exact Array.toList_inj.mp this
  · cases ys with
    | nil => exact .nil
    | cons y r => exact rising_pair hy
theorem fsem_sorted {G : Gx} : FSem G (rSortedS G.K) gSorted := fun F H vs ds d Q fh vw e q => by
  unfold gSorted at e
  split at e
  · rename_i ds
    cases e1 : strsOf ds with
    | none => rw [e1] at e; cases e
    | some xs =>
      rw [e1, Option.bind_some] at e
      by_cases hc : xs.length < 64 ∧ rises xs = true
      · rw [if_pos hc] at e
        cases e
        obtain ⟨v, rfl, h⟩ := vw.one
        obtain ⟨a, zs, rfl, t, r⟩ := h.lst fh
        have ez := strs_vw r e1
        refine ⟨a, xs, rfl, by rw [← ez]; exact SqL.of t, hc.1, fun ys pp hp hs hn => ?_⟩
        rw [sorted_same hp hs hc.2, ← ez]
        exact q pp _ hn ⟨_, rfl, r⟩
      · rw [if_neg hc] at e; cases e
  · cases e
theorem d_callBF {id : String} {r : RL} {g : List D → Option D} {sB : SB} (hc : CallR X (.builtin id) r) (hG : FSem (GK X ex) r g) (hg : Gl X x) (hm : X.mg x = none) (ha : DB (GK X ex) X W (e :: es) sB) (hv : bootBuiltins x = some (.builtin id) := by decide +kernel) (hn : x ≠ "__name__" := by decide)
    (hdb : (x == ("__debug__" : Str)) = false := by decide) (he : starEach (e :: es) X.env = (false, eval e X.env) :: starEach es X.env := by rfl) (hpl : (backTo pos (starEach es X.env)).any (·.1) = false := by rfl) : DF (GK X ex) X W (.Call (.Name x p) (e :: es) [] pos) (sOps g sB) :=
  wkE (pe_callB hc hg hm hv ha hn hdb he hpl) fun σ H Q h => opsF_core hG h
/-! ### zip(a, b) of two tuples -/
theorem iter_zipT {K : PySem.W.Frag} {F : Hp} {a b : Addr} {vs ws : List V} {xs ys : List D} (ha : SqT K F a vs) (hb : SqT K F b ws) (rx : Rps K F vs xs) (ry : Rps K F ws ys) : IterOk K (ItzT K a b) F (pairUp xs ys) := by
  have at1 : ∀ {F1 H : Hp}, FLe F F1 → FLe F1 H → SqT K H a vs := fun h1 h2 => h2.sqT (h1.sqT ha)
  have at2 : ∀ {F1 H : Hp}, FLe F F1 → FLe F1 H → SqT K H b ws := fun h1 h2 => h2.sqT (h1.sqT hb)
  have lx := rx.length
  have ly := ry.length
  refine ⟨fun i F1 H h1 h2 hi => ?_, fun F1 H h1 h2 => ⟨vs, ws, at1 h1 h2, at2 h1 h2, ?_⟩, fun i F1 H H' x d h1 h2 e y => ?_⟩
  · unfold pairUp at hi
    rw [List.length_zipWith] at hi
    exact ⟨vs, ws, vs[i]'(by omega), ws[i]'(by omega), at1 h1 h2, at2 h1 h2, by simp [show i < vs.length by omega], by simp [show i < ws.length by omega]⟩
  · unfold pairUp
    rw [List.length_zipWith]
    omega
  · obtain ⟨T, v, w, rfl, hT, rfl, g1, g2⟩ := y
    unfold pairUp at e
    rw [List.getElem?_zipWith] at e
    cases ex : xs[i]? with
    | none => rw [ex] at e; cases e
    | some dx =>
      cases ey : ys[i]? with
      | none => rw [ex, ey] at e; cases e
      | some dy =>
        rw [ex, ey] at e
        cases e
        obtain ⟨v', e1, r1⟩ := rx.get ex
        obtain ⟨w', e2, r2⟩ := ry.get ey
        have e3 := g1 vs (at1 h1 h2)
        have e4 := g2 ws (at2 h1 h2)
        rw [e1] at e3; cases e3
        rw [e2] at e4; cases e4
        have n := New.obj h2 hT (.tup [v, w])
        exact ⟨_, n, .arg (.inl (.inl upd_same)) (.cons (r1.mono (h1.trans n.f)) (.cons (r2.mono (h1.trans n.f)) .nil))⟩
def zipT : List D → Option (List D)
  | [.tup xs, .tup ys] => some (pairUp xs ys)
  | _ => none
theorem zipT_some {ds zs : List D} (h : zipT ds = some zs) : ∃ xs ys, ds = [.tup xs, .tup ys] ∧ zs = pairUp xs ys := by
  unfold zipT at h
  split at h
  · cases h; exact ⟨_, _, rfl, rfl⟩
  · cases h
def iZipT (s : SA) : SA := fun ρ => (s ρ).bind fun ds ρ' => ofO (zipT ds) ρ'
@[simp] theorem ev_iZipT (s : SA) (ρ : Env) : iZipT s ρ = (s ρ).bind fun ds ρ' => ofO (zipT ds) ρ' := rfl
theorem d_iZipT {e2 : Expr} {elts : List Expr} {kk : Nat} {tpos : Pos} (hg : Gl X "zip") (hm : X.mg "zip" = none) (ha : DA (GK X ex) X W [e, e2] sA) (hs : starEach [e, e2] X.env = (false, eval e X.env) :: starEach [e2] X.env := by rfl) (hpl : (backTo pos (starEach [e2] X.env)).any (·.1) = false := by rfl) :
    DI (GK X ex) X W (.Tuple elts kk tpos) (.Call (.Name "zip" p) [e, e2] [] pos) (iZipT sA) :=
  wkI (pi_zipA hg hm ha hs hpl) fun σ H Q ⟨ρ, F, Rv, io, rel, q⟩ => by
    refine ⟨ρ, F, Rv, io, rel, ?_⟩
    unfold iZipT at q
    cases e1 : sA ρ with
    | stuck => rw [e1] at q; exact q.elim
    | exc x ρ' => rw [e1] at q; exact q
    | ok ds ρ' =>
      rw [e1, R.bind_ok] at q
      intro vs H' F' le rel' rs
      cases e3 : zipT ds with
      | none => rw [e3] at q; exact q.elim
      | some zs =>
        rw [e3] at q
        obtain ⟨xs, ys, rfl, rfl⟩ := zipT_some e3
        obtain ⟨v1, v2, rfl, r1, r2⟩ : ∃ v1 v2, vs = [v1, v2] ∧ Rp X.K F' v1 (.tup xs) ∧ Rp X.K F' v2 (.tup ys) := by
          cases rs with
          | cons r1 rs =>
            cases rs with
            | cons r2 rs => cases rs; exact ⟨_, _, rfl, r1, r2⟩
        obtain ⟨a, vs, rfl, t1, q1⟩ : ∃ a vs, v1 = .ref a ∧ TupC F' a vs ∧ Rps X.K F' vs xs := by cases r1; exact ⟨_, _, rfl, by assumption, by assumption⟩
        obtain ⟨b, ws, rfl, t2, q2⟩ : ∃ a vs, v2 = .ref a ∧ TupC F' a vs ∧ Rps X.K F' vs ys := by cases r2; exact ⟨_, _, rfl, by assumption, by assumption⟩
        exact ⟨a, b, vs, ws, rfl, .inr ⟨rel'.fH.sqT t1.sq, rel'.fH.sqT t2.sq, q _ H' F' le rel' (iter_zipT t1.sq t2.sq q1 q2)⟩⟩
end
end Dt

set_option Elab.async false
set_option linter.all false
set_option maxRecDepth 100000
set_option maxHeartbeats 4000000
/-! Dicts of a def's own whose keys are nested tuples of ints and truth values. -/
namespace Dt
open PySem PySem.Spec PyProof.Rows L2
theorem NestedAll.of {h : Heap} {ks : List NestedKey} {us : List Value} (r : NestedAll h ks us) : NestedAll h ks us.toArray.toList := by simpa using r
section
variable {X : Cx} {pins : List (Addr × Obj)} {σ : L2.St} {H F : Hp} {s : Shared}
mutual
theorem nk_is (I : Inv X pins σ H s) (fh : FLe F H) : ∀ {d : D} {v : V} {k : NestedKey} {u : Value}, Rp X.K F v d → nk d = some k → RelV v u → NestedIs s.heap k u
  | .bl b, _, _, _, r, e, q => by
    cases r
    simp only [nk] at e
    cases e
    obtain rfl : _ = Value.bool b := q
    exact .bool rfl
  | .int i, _, _, _, r, e, q => by
    cases r
    simp only [nk] at e
    cases e
    obtain ⟨t, rfl⟩ := q
    exact .int i t
  | .tup ds, _, _, _, r, e, q => by
    simp only [nk] at e
    cases e1 : nks ds with
    | none => rw [e1] at e; cases e
    | some ks =>
      rw [e1] at e
      cases e
      cases r with
      | @tup a xs _ t rs =>
        obtain rfl : _ = Value.ref a := q
        obtain ⟨its, rv, p, _⟩ := I.tuple (fh.sqT (t.sq (K := X.K)))
        obtain ⟨o, ho, hc, n, hd⟩ := id p
        exact .tup ho hc hd (NestedAll.of (nks_is I fh rs e1 rv))
  | .non, _, _, _, _, e, _ => by simp only [nk] at e; cases e
  | .str _, _, _, _, _, e, _ => by simp only [nk] at e; cases e
  | .lst _, _, _, _, _, e, _ => by simp only [nk] at e; cases e
  | .dct _ _, _, _, _, _, e, _ => by simp only [nk] at e; cases e
  | .scr _, _, _, _, _, e, _ => by simp only [nk] at e; cases e
  | .arg _, _, _, _, _, e, _ => by simp only [nk] at e; cases e
  | .fn _, _, _, _, _, e, _ => by simp only [nk] at e; cases e
  | .nd _ _, _, _, _, _, e, _ => by simp only [nk] at e; cases e
theorem nks_is (I : Inv X pins σ H s) (fh : FLe F H) : ∀ {ds : List D} {vs : List V} {ks : List NestedKey} {us : List Value}, Rps X.K F vs ds → nks ds = some ks → Vals vs us → NestedAll s.heap ks us
  | [], _, _, _, r, e, q => by
    cases r
    simp only [nks] at e
    cases e
    cases q
    exact .nil
  | d :: ds, _, _, _, r, e, q => by
    simp only [nks] at e
    cases e1 : nk d with
    | none => rw [e1] at e; cases e
    | some k =>
      cases e2 : nks ds with
      | none => rw [e1, e2] at e; cases e
      | some ks =>
        rw [e1, e2] at e
        cases e
        cases r with
        | cons r1 r2 => cases q with
          | cons q1 q2 => exact .cons (nk_is I fh r1 e1 q1) (nks_is I fh r2 e2 q2)
end
theorem nkey_some {d : D} {k : NestedKey} (h : nkey d = some k) : nk d = some k ∧ k.depth ≤ 8 ∧ ∃ ds, d = .tup ds := by
  cases d with
  | tup ds =>
    simp only [nkey] at h
    cases e : nk (.tup ds) with
    | none => rw [e] at h; cases h
    | some k' =>
      rw [e] at h
      by_cases z : k'.depth ≤ 8
      · have h : (if k'.depth ≤ 8 then some k' else none) = some k := h
        rw [if_pos z] at h
        cases h
        exact ⟨rfl, z, ds, rfl⟩
      · have h : (if k'.depth ≤ 8 then some k' else none) = some k := h
        rw [if_neg z] at h
        cases h
  | _ => cases h
theorem nkey_is (I : Inv X pins σ H s) (fh : FLe F H) {d : D} {v : V} {k : NestedKey} {u : Value} (r : Rp X.K F v d) (e : nkey d = some k) (q : RelV v u) : ∃ a, v = .ref a ∧ u = .ref a ∧ (nestedKind X.prog X.w).is s.heap k a := by
  obtain ⟨h1, h2, ds, rfl⟩ := nkey_some e
  cases r with
  | @tup a xs _ t rs =>
    have z := nk_is I fh (.tup t rs) h1 q
    obtain rfl : u = Value.ref a := q
    exact ⟨a, rfl, rfl, z, h2⟩
mutual
/-- a key without texts: its hash is the same in every world -/
theorem nk_hash : ∀ {d : D} {k : NestedKey}, nk d = some k → ∀ w w' : World, k.hash w = k.hash w'
  | .bl b, _, e, w, w' => by simp only [nk] at e; cases e; rfl
  | .int i, _, e, w, w' => by simp only [nk] at e; cases e; rfl
  | .tup ds, _, e, w, w' => by
    simp only [nk] at e
    cases e1 : nks ds with
    | none => rw [e1] at e; cases e
    | some ks =>
      rw [e1] at e
      cases e
      show reduceHash (Builtin.Tuple.tupleHashOf (NestedKey.hashes w ks)) = reduceHash (Builtin.Tuple.tupleHashOf (NestedKey.hashes w' ks))
      rw [nks_hash e1 w w']
  | .non, _, e, _, _ => by simp only [nk] at e; cases e
  | .str _, _, e, _, _ => by simp only [nk] at e; cases e
  | .lst _, _, e, _, _ => by simp only [nk] at e; cases e
  | .dct _ _, _, e, _, _ => by simp only [nk] at e; cases e
  | .scr _, _, e, _, _ => by simp only [nk] at e; cases e
  | .arg _, _, e, _, _ => by simp only [nk] at e; cases e
  | .fn _, _, e, _, _ => by simp only [nk] at e; cases e
  | .nd _ _, _, e, _, _ => by simp only [nk] at e; cases e
theorem nks_hash : ∀ {ds : List D} {ks : List NestedKey}, nks ds = some ks → ∀ w w' : World, NestedKey.hashes w ks = NestedKey.hashes w' ks
  | [], _, e, w, w' => by simp only [nks] at e; cases e; rfl
  | d :: ds, _, e, w, w' => by
    simp only [nks] at e
    cases e1 : nk d with
    | none => rw [e1] at e; cases e
    | some k =>
      cases e2 : nks ds with
      | none => rw [e1, e2] at e; cases e
      | some ks =>
        rw [e1, e2] at e
        cases e
        show NestedKey.hash w k :: NestedKey.hashes w ks = NestedKey.hash w' k :: NestedKey.hashes w' ks
        rw [nk_hash e1 w w', nks_hash e2 w w']
end
/-- what a dict holds at a key -/
def ndLook : List D → List D → NestedKey → Option D
  | k' :: ks, d :: ds, k => if nkey k' = some k then some d else ndLook ks ds k
  | _, _, _ => none
def ndPut (ks ds : List D) (kd : D) (k : NestedKey) (z : D) : List D × List D :=
  if (ndLook ks ds k).isSome = true then (ks, List.zipWith (fun k' d => if nkey k' = some k then z else d) ks ds) else (ks ++ [kd], ds ++ [z])
theorem nd_at {K : PySem.W.Frag} {k : NestedKey} : ∀ {xs : List (NestedKey × Addr × Value)} {ks ds : List D} {vs : List V}, ks.map nkey = xs.map (fun x => some x.1) → Vals vs (xs.map fun x => x.2.2) → Rps K F vs ds →
    (atKey xs k = none ∧ ndLook ks ds k = none) ∨ ∃ p d v, atKey xs k = some p ∧ ndLook ks ds k = some d ∧ RelV v p.2 ∧ Rp K F v d
  | [], [], ds, vs, _, rv, rs => by cases rv; cases rs; exact .inl ⟨rfl, rfl⟩
  | [], _ :: _, _, _, e, _, _ => by simp at e
  | _ :: _, [], _, _, e, _, _ => by simp at e
  | x :: xs, k' :: ks, ds, vs, e, rv, rs => by
    rw [List.map_cons, List.map_cons] at e
    obtain ⟨e1, e2⟩ := List.cons.inj e
    cases rv with
    | cons a b =>
      cases rs with
      | cons c d =>
        by_cases z : x.1 = k
        · have zk : nkey k' = some k := by rw [e1, z]
          exact .inr ⟨x.2, _, _, by simp [atKey, z], by simp [ndLook, zk], a, c⟩
        · have zk : ¬ nkey k' = some k := fun h => z (by rw [e1] at h; exact Option.some.inj h)
          have e3 : atKey (x :: xs) k = atKey xs k := by simp [atKey, z]
          have e4 : ∀ y ys, ndLook (k' :: ks) (y :: ys) k = ndLook ks ys k := fun y ys => by simp [ndLook, zk]
          rw [e3, e4]
          exact nd_at e2 b d
/-- a dict of the data stands at p -/
def NdAt (K : PySem.W.Frag) (F H : Hp) (p : Addr) (ks ds : List D) : Prop := ∃ ob xs vs, Rd H p (AtO p ob) ∧ NdC p ob xs ks vs ∧ Rps K F (xs.map fun x => .ref x.2.1) ks ∧ Rps K F vs ds
theorem Vw.nd {K : PySem.W.Frag} (fh : FLe F H) {v : V} {ks ds : List D} (h : Vw K F H v (.nd ks ds)) : ∃ p, v = .ref p ∧ NdAt K F H p ks ds := by
  rcases h with h | ⟨p, o, e, h1, ob, xs, vs, rfl, c, r1, r2⟩
  · cases h with
    | nd t c r1 r2 => exact ⟨_, rfl, _, _, _, .inr ⟨_, fh _ _ t⟩, c, r1, r2⟩
  · exact ⟨p, e, ob, xs, vs, .inl h1, c, r1, r2⟩
theorem keys_is (I : Inv X pins σ H s) (fh : FLe F H) : ∀ {xs : List (NestedKey × Addr × Value)} {ks : List D}, ks.map nkey = xs.map (fun x => some x.1) → Rps X.K F (xs.map fun x => V.ref x.2.1) ks → ∀ x ∈ xs, (nestedKind X.prog X.w).is s.heap x.1 x.2.1
  | [], _, _, _, x, hx => nomatch hx
  | _ :: _, [], e, _, _, _ => by simp at e
  | y :: xs, k :: ks, e, r, x, hx => by
    rw [List.map_cons, List.map_cons] at e
    obtain ⟨e1, e2⟩ := List.cons.inj e
    rw [List.map_cons] at r
    cases r with
    | cons r1 r2 =>
      rcases List.mem_cons.mp hx with rfl | hx
      · obtain ⟨a, h1, h2, h3⟩ := nkey_is (u := .ref x.2.1) I fh r1 e1 rfl
        cases h1
        exact h3
      · exact keys_is I fh e2 r2 x hx
theorem nd_of (I : Inv X pins σ H s) (fh : FLe F H) {p : Addr} {ob : Obj} {xs : List (NestedKey × Addr × Value)} {ks : List D} {vs : List V} (hp : Rd H p (AtO p ob)) (c : NdC p ob xs ks vs) (rk : Rps X.K F (xs.map fun x => .ref x.2.1) ks) :
    s.heap.get? p = some ob ∧ s.heap.DictOfH (nestedKind X.prog X.w) p xs := by
  obtain ⟨h1, _⟩ := (show ObjOk X.prog X.w H s.heap p (AtO p ob) from rd_of I.hok hp)
  obtain ⟨es, ep, h2, h3⟩ := c.en
  exact ⟨h1, ob, es, ep, h1, c.ex, h2, h3 _ _, keys_is I fh c.keys rk, c.nod⟩
theorem ato_ok {P : Program} {w : World} {H : Hp} {h : Heap} {p : Addr} {ob : Obj} (e : h.get? p = some ob) : ObjOk P w H h p (AtO p ob) := ⟨e, ⟨ob, e⟩, fun h1 h2 e1 k => k ob e1⟩
def rInN (K : PySem.W.Frag) (neg : Bool) : R2 := fun x y H Q => ∃ (F : Hp) (p : Addr) (ks ds : List D) (kd : D) (k : NestedKey), FLe F H ∧ y = .ref p ∧ NdAt K F H p ks ds ∧ Rp K F x kd ∧ nkey kd = some k ∧ Q (.bl (xor neg (ndLook ks ds k).isSome)) H
theorem nd_some {K : PySem.W.Frag} {xs : List (NestedKey × Addr × Value)} {ks ds : List D} {vs : List V} {k : NestedKey} (c : ks.map nkey = xs.map (fun x => some x.1)) (rv : Vals vs (xs.map fun x => x.2.2)) (rs : Rps K F vs ds) : (atKey xs k).isSome = (ndLook ks ds k).isSome := by
  rcases nd_at (k := k) c rv rs with ⟨e1, e2⟩ | ⟨p, d, v, e1, e2, _⟩ <;> rw [e1, e2] <;> rfl
theorem op_inN (hu : X.A.units + 64 < cLine) : OpR X (compareOp .In) (rInN X.K false) := by
  intro pins s σ H x y v u Q I rx ry ⟨F, p, ks, ds, kd, k, fh, e, ⟨ob, xs, vs, hp, c, rk, rv⟩, rp, ek, q⟩
  subst e
  obtain rfl : u = Value.ref p := ry
  obtain ⟨a, rfl, rfl, hk⟩ := nkey_is I fh rp ek rx
  obtain ⟨_, dd⟩ := nd_of I fh hp c rk
  refine wpAny_in_heap (knd := nestedKind X.prog X.w) (show X.A.in1.units + 8 < cLine by rw [Around.in1_units]; omega) hk c.ns dd ?_
  rw [nd_some c.keys c.vals rv]
  exact ⟨.bl _, H, I.tok _, rfl, by simpa using q⟩
theorem op_notInN (hu : X.A.units + 64 < cLine) : OpR X (compareOp .NotIn) (rInN X.K true) := by
  intro pins s σ H x y v u Q I rx ry ⟨F, p, ks, ds, kd, k, fh, e, ⟨ob, xs, vs, hp, c, rk, rv⟩, rp, ek, q⟩
  subst e
  obtain rfl : u = Value.ref p := ry
  obtain ⟨a, rfl, rfl, hk⟩ := nkey_is I fh rp ek rx
  obtain ⟨_, dd⟩ := nd_of I fh hp c rk
  refine wpAny_notIn_heap (knd := nestedKind X.prog X.w) (show X.A.in1.units + 8 < cLine by rw [Around.in1_units]; omega) hk c.ns dd ?_
  rw [nd_some c.keys c.vals rv]
  exact ⟨.bl _, H, I.tok _, rfl, by simpa using q⟩
def rIxN (K : PySem.W.Frag) : R2 := fun x y H Q => ∃ (F : Hp) (p : Addr) (ks ds : List D) (kd : D) (k : NestedKey) (z : D), FLe F H ∧ x = .ref p ∧ NdAt K F H p ks ds ∧ Rp K F y kd ∧ nkey kd = some k ∧ ndLook ks ds k = some z ∧ ∀ v, Rp K F v z → Q v H
theorem ix_nd (hu : X.A.units + 64 < cLine) : IxR X (rIxN X.K) := by
  intro value slice pins s σ H x y v u Q I rx ry ⟨F, p, ks, ds, kd, k, z, fh, e, ⟨ob, xs, vs, hp, c, rk, rv⟩, rp, ek, el, q⟩ hs
  subst e
  obtain rfl : v = Value.ref p := rx
  obtain ⟨a, rfl, rfl, hk⟩ := nkey_is I fh rp ek ry
  obtain ⟨_, dd⟩ := nd_of I fh hp c rk
  rcases nd_at (k := k) c.keys c.vals rv with ⟨_, e2⟩ | ⟨pv, d, v, e1, e2, r1, r2⟩
  · rw [el] at e2; cases e2
  · rw [el] at e2
    cases e2
    exact tail_any (ops := [.ref p, .ref a]) dd.typeIs PySem.F.slot_dict_getitem.lookup (wpAny_getItem_heap (knd := nestedKind X.prog X.w) (show X.A.in1.units + 8 < cLine by rw [Around.in1_units]; omega) hk dd e1 ⟨v, H, I.tok _, r1, q v r2⟩) hs
/-! ### d[k] = v -/
theorem nkey_hash (w w' : World) {d : D} {k : NestedKey} (h : nkey d = some k) : k.hash w = k.hash w' := by
  unfold nkey at h
  split at h
  · split at h
    · rename_i e
      split at h
      · cases h; exact nk_hash e w w'
      · cases h
    · cases h
  · cases h
theorem stored_hash {P P' : Program} {w w' : World} {xs : List (NestedKey × Addr × Value)} {ks : List D} {kd : D} {k : NestedKey} {a : Addr} {r : Value} (hk : ks.map nkey = xs.map fun x => some x.1) (ek : nkey kd = some k) :
    (storedH xs k a r).map (entryOfKey (nestedKind P w)) = (storedH xs k a r).map (entryOfKey (nestedKind P' w')) := by
  refine List.map_congr_left fun x hx => ?_
  have key : x.1.hash w = x.1.hash w' := by
    have old : ∀ y ∈ xs, y.1.hash w = y.1.hash w' := fun y hy => by
      have m : some y.1 ∈ ks.map nkey := by rw [hk]; exact List.mem_map.mpr ⟨y, hy, rfl⟩
      obtain ⟨d, _, e⟩ := List.mem_map.mp m
      exact nkey_hash w w' e
    unfold storedH at hx
    split at hx
    · obtain ⟨y, hy, rfl⟩ := List.mem_map.mp hx
      have : (putAt k r y).1 = y.1 := by unfold putAt; split <;> rfl
      rw [this]
      exact old y hy
    · rcases List.mem_append.mp hx with hx | hx
      · exact old x hx
      · rw [List.mem_singleton.mp hx]; exact nkey_hash w w' ek
  show DictEntry.mk (x.1.hash w) _ _ = DictEntry.mk (x.1.hash w') _ _
  rw [key]
theorem nd_stored {K : PySem.W.Frag} {p a : Addr} {ob ob' : Obj} {xs : List (NestedKey × Addr × Value)} {ks ds : List D} {vs : List V} {kd z : D} {k : NestedKey} {v : V} {r : Value} (c : NdC p ob xs ks vs) (rk : Rps K F (xs.map fun x => .ref x.2.1) ks) (rv : Rps K F vs ds) (ek : nkey kd = some k) (ra : Rp K F (.ref a) kd)
    (rr : RelV v r) (rz : Rp K F v z) (hx : ob'.ExactDict) (hd : ∃ es ep, ob'.data = .dict es ep ∧ ∀ (P : Program) (w : World), es.toList = (storedH xs k a r).map (entryOfKey (nestedKind P w))) :
    OwnObj K F p (AtO p ob') (.nd (ndPut ks ds kd k z).1 (ndPut ks ds kd k z).2) := by
  unfold ndPut
  rw [← nd_some (k := k) c.keys c.vals rv]
  unfold storedH at hd
  by_cases h : (atKey xs k).isSome = true
  · rw [if_pos h] at hd ⊢
    have go : ∀ {xs : List (NestedKey × Addr × Value)} {ks ds : List D} {vs : List V}, ks.map nkey = xs.map (fun x => some x.1) → Vals vs (xs.map fun x => x.2.2) → Rps K F vs ds → ∃ vs', Vals vs' ((xs.map (putAt k r)).map fun x => x.2.2) ∧ Rps K F vs' (List.zipWith (fun k' d => if nkey k' = some k then z else d) ks ds) := by
      intro xs
      induction xs with
      | nil => intro ks ds vs e a b; cases ks with
        | nil => cases a; cases b; exact ⟨[], .nil, .nil⟩
        | cons _ _ => simp at e
      | cons x xs ih =>
        intro ks ds vs e a b
        cases ks with
        | nil => simp at e
        | cons k' ks =>
          rw [List.map_cons, List.map_cons] at e
          obtain ⟨e1, e2⟩ := List.cons.inj e
          cases a with
          | @cons vs0 _ _ _ a1 a2 => cases b with
            | cons b1 b2 =>
              obtain ⟨vs', h1, h2⟩ := ih e2 a2 b2
              by_cases q : x.1 = k
              · refine ⟨v :: vs', ?_, ?_⟩
                · rw [List.map_cons, List.map_cons]
                  refine .cons ?_ h1
                  rw [putAt, if_pos q]
                  exact rr
                · rw [List.zipWith_cons_cons, if_pos (by rw [e1, q])]
                  exact .cons rz h2
              · refine ⟨vs0 :: vs', ?_, ?_⟩
                · rw [List.map_cons, List.map_cons]
                  refine .cons ?_ h1
                  rw [putAt, if_neg q]
                  exact a1
                · rw [List.zipWith_cons_cons, if_neg (fun w => q (by rw [e1] at w; exact Option.some.inj w))]
                  exact .cons b1 h2
    obtain ⟨vs', h1, h2⟩ := go c.keys c.vals rv
    have km : ∀ {β : Type} (f : NestedKey → Addr → β), ((xs.map (putAt k r)).map fun x => f x.1 x.2.1) = xs.map fun x => f x.1 x.2.1 := fun f => by
      rw [List.map_map]
      refine List.map_congr_left fun x _ => ?_
      show f (putAt k r x).1 (putAt k r x).2.1 = _
      unfold putAt
      split <;> rfl
    refine ⟨ob', xs.map (putAt k r), vs', rfl, ⟨c.ns, hx, hd, ?_, h1, ?_⟩, ?_, h2⟩
    · rw [keys_map_putAt]; exact c.nod
    · rw [km fun k _ => some k]; exact c.keys
    · rw [km fun _ a => V.ref a]; exact rk
  · rw [if_neg h] at hd ⊢
    refine ⟨ob', xs ++ [(k, a, r)], vs ++ [v], rfl, ⟨c.ns, hx, hd, ?_, ?_, ?_⟩, ?_, rv.append (.cons rz .nil)⟩
    · rw [List.map_append, List.nodup_append]
      refine ⟨c.nod, by simp, ?_⟩
      intro b hb b' hb' z
      simp only [List.map_cons, List.map_nil, List.mem_singleton] at hb'
      subst hb' z
      obtain ⟨x, hx, e⟩ := List.mem_map.mp hb
      refine h ?_
      unfold atKey
      rw [Option.isSome_map, List.find?_isSome]
      exact ⟨x, hx, by simp [e]⟩
    · rw [List.map_append]; exact c.vals.append (.cons rr .nil)
    · rw [List.map_append, List.map_append, c.keys]
      show _ ++ [nkey kd] = _ ++ [some k]
      rw [ek]
    · rw [List.map_append]; exact rk.append (.cons ra .nil)
def rSetN (K : PySem.W.Frag) : TSet := fun o i v H Q => ∃ (F : Hp) (p : Addr) (ob0 : HO) (ks ds : List D) (kd z : D) (k : NestedKey), FLe F H ∧ o = .ref p ∧ H p = some ob0 ∧ OwnObj K F p ob0 (.nd ks ds) ∧ Rp K F i kd ∧ nkey kd = some k ∧ ks.length ≤ sizeLine ∧ Rp K F v z ∧
  ∀ ob', OwnObj K F p ob' (.nd (ndPut ks ds kd k z).1 (ndPut ks ds kd k z).2) → Q (upd H p ob')
theorem set_nd (hu : X.A.units + 64 < cLine) : PSet X (rSetN X.K) := by
  intro pins s σ H o i v ov iv u Q I ro ri rv ⟨F, p, ob0, ks, ds, kd, z, k, fh, e, hp, ⟨ob, xs, vs, e0, c, rk, rs⟩, rp, ek, hz, rz, q⟩
  subst e e0
  obtain rfl : ov = Value.ref p := ro
  obtain ⟨a, rfl, rfl, hk⟩ := nkey_is I fh rp ek ri
  obtain ⟨h0, dd⟩ := nd_of I fh (.inl hp) c rk
  have hl : xs.length = ks.length := by
    have := congrArg List.length c.keys
    rw [List.length_map, List.length_map] at this
    exact this.symm
  refine wpAny_setItem_heap (knd := nestedKind X.prog X.w) (show X.A.in1.units + 8 < cLine by rw [Around.in1_units]; omega) hk dd (fun h' dd' sb => ?_) (by rw [hl]; exact hz)
  obtain ⟨ob', es, ep, h1, h2, h3, h4, h5, h6⟩ := dd'
  have own := nd_stored (ob' := ob') c rk rs ek rp rv rz h2 ⟨es, ep, h3, fun P w => ?_⟩
  · exact ⟨upd H p (AtO p ob'), d_write (t' := _) I (by rw [hp]; exact True.intro) sb ⟨ob', h1⟩ (ato_ok h1), q _ own⟩
  · rw [h4]
    exact stored_hash c.keys ek
end
end Dt

set_option Elab.async false
set_option linter.all false
set_option maxRecDepth 100000
set_option maxHeartbeats 4000000
/-! The judgements' rules for dicts with nested keys. -/
namespace Dt
open PySem PySem.Spec PyProof.Rows L2
section
variable {ex : String → Addr} {X : Cx} {W : WX} {a b c e o tg : Expr} {es : List Expr} {pos p : Pos} {sa sb sc : SO} {ea eb : SE} {sB : SB} {sA : SA} {x : Str} {id : String} {G : Gx}
def gInN : List D → Option D
  | [x, .nd ks ds] => (nkey x).map fun k => .bl (ndLook ks ds k).isSome
  | _ => none
def gNotInN : List D → Option D
  | [x, .nd ks ds] => (nkey x).map fun k => .bl (!(ndLook ks ds k).isSome)
  | _ => none
def gIdxN : List D → Option D
  | [.nd ks ds, y] => (nkey y).bind fun k => ndLook ks ds k
  | _ => none
theorem nkey_rp {K : PySem.W.Frag} {F H : Hp} {v : V} {d : D} {k : NestedKey} (h : Vw K F H v d) (e : nkey d = some k) : Rp K F v d := by
  rcases h with h | ⟨p, o, _, _, h⟩
  · exact h
  · obtain ⟨_, _, ds, rfl⟩ := nkey_some e
    exact h.elim
theorem psem_inN : PSem G (r2L (rInN G.K false)) gInN := fun F H vs ds d Q fh vw e q => by
  unfold gInN at e
  split at e
  · rename_i x ks ds
    obtain ⟨v, w, rfl, h1, h2⟩ := vw.two
    cases e1 : nkey x with
    | none => rw [e1] at e; cases e
    | some k =>
      rw [e1] at e
      cases e
      obtain ⟨p, rfl, hp⟩ := h2.nd fh
      exact ⟨v, _, rfl, F, p, ks, ds, x, k, fh, rfl, hp, nkey_rp h1 e1, e1, by simpa using fin_flat fh q (.bl _)⟩
  · cases e
theorem psem_notInN : PSem G (r2L (rInN G.K true)) gNotInN := fun F H vs ds d Q fh vw e q => by
  unfold gNotInN at e
  split at e
  · rename_i x ks ds
    obtain ⟨v, w, rfl, h1, h2⟩ := vw.two
    cases e1 : nkey x with
    | none => rw [e1] at e; cases e
    | some k =>
      rw [e1] at e
      cases e
      obtain ⟨p, rfl, hp⟩ := h2.nd fh
      exact ⟨v, _, rfl, F, p, ks, ds, x, k, fh, rfl, hp, nkey_rp h1 e1, e1, by simpa using fin_flat fh q (.bl _)⟩
  · cases e
theorem psem_idxN : PSem G (r2L (rIxN G.K)) gIdxN := fun F H vs ds d Q fh vw e q => by
  unfold gIdxN at e
  split at e
  · rename_i ks ds y
    obtain ⟨v, w, rfl, h1, h2⟩ := vw.two
    cases e1 : nkey y with
    | none => rw [e1] at e; cases e
    | some k =>
      rw [e1, Option.bind_some] at e
      obtain ⟨p, rfl, hp⟩ := h1.nd fh
      exact ⟨_, w, rfl, F, p, ks, ds, y, k, d, fh, rfl, hp, nkey_rp h2 e1, e1, e, fun v r => q v H F (New.refl fh) r⟩
  · cases e
theorem d_idxN (hu : At X W) (ha : DO (GK X ex) X W a sa) (hb : DO (GK X ex) X W b sb) (hs : PlainIx b := by intro _ _; rfl) : DE (GK X ex) X W (.Subscript a b pos) (sOps gIdxN (b2 sa sb)) :=
  wkE (pe_ix (ix_nd hu.un) ha hb hs) fun σ H Q h => two_ops (r := rIxN X.K) psem_idxN h
/-- {}: keys will be nested tuples -/
theorem d_ndF : DF (GK X ex) X W (.Dict [] [] pos) (sCst (.nd [] [])) := wkE (u := tF (GK X ex) W (sCst (.nd [] []))) (t := fun σ H Q => ∀ p ob, H p = none → (∀ K F, OwnObj K F p (AtO p ob) (.nd [] [])) → Q (.ref p) (upd H p (AtO p ob))) ⟨fun pins s σ H Q I h => by
  have hn : (s.heap.objs.size == sysModules) = false := beq_eq_false_iff_ne.mpr (Ne.symm (Nat.ne_of_lt I.big))
  have hg : (s.heap.push { cls := .type "dict", data := .dict #[] }).get? s.heap.objs.size = some { cls := .type "dict", data := .dict #[] } := Heap.get?_push_size _ rfl
  exact wpAny_Dict_empty ⟨.ref s.heap.objs.size, _, I.laid (a := s.heap.objs.size) (o := AtO s.heap.objs.size _) (t' := s.toks) (fun _ _ q => Heap.get?_push_of_some _ q) (Nat.le_refl _) (ato_ok hg), rfl,
    h _ _ (I.hok.fresh (Nat.le_refl _)) fun K F => ⟨_, [], [], rfl, ⟨hn, ⟨rfl, rfl, rfl⟩, ⟨#[], 0, rfl, fun _ _ => rfl⟩, List.nodup_nil, .nil, rfl⟩, .nil, .nil⟩⟩⟩
  fun σ H Q ⟨ρ, F, Rv, io, rel, q⟩ => fun p ob hp own => q p _ F (FLe.refl F) (rel.newH hp _) ⟨rel.fH.noneOf hp, rel.rH.noneOf hp, _, upd_same, own _ _⟩ (rel.loose hp)
/-- d[k] = v -/
def putN (d i z : D) : Option D := match d with
  | .nd ks ds => (nkey i).bind fun k => if ks.length ≤ sizeLine then some (.nd (ndPut ks ds i k z).1 (ndPut ks ds i k z).2) else none
  | _ => none
def gPutN (i : Nat) (sk : SO) : SG := fun z ρ => match held ρ i with
  | none => .stuck
  | some _ => (sk ρ).bind fun o ρ' => match held ρ' i, o.get ρ' with
    | some d, some k => match putN d k z with
      | some d' => .ok () (put ρ' i d')
      | none => .stuck
    | _, _ => .stuck
@[simp] theorem ev_gPutN (i : Nat) (sk : SO) (z : D) (ρ : Env) : gPutN i sk z ρ = match held ρ i with
  | none => .stuck
  | some _ => (sk ρ).bind fun o ρ' => match held ρ' i, o.get ρ' with
    | some d, some k => match putN d k z with
      | some d' => .ok () (put ρ' i d')
      | none => .stuck
    | _, _ => .stuck := rfl
theorem putN_set {F H : Hp} {d i z d' : D} {p : Addr} {ob : HO} {iv v : V} {Q : Hp → Prop} (fh : FLe F H) (hp : H p = some ob) (ho : OwnObj G.K F p ob d) (hi : Vw G.K F H iv i) (hv : Rp G.K F v z) (e : putN d i z = some d')
    (q : ∀ ob', OwnObj G.K F p ob' d' → Q (upd H p ob')) : rSetN G.K (.ref p) iv v H Q := by
  cases d with
  | nd ks ds =>
    simp only [putN] at e
    cases e2 : nkey i with
    | none => rw [e2] at e; cases e
    | some k =>
      rw [e2, Option.bind_some] at e
      split at e
      · rename_i hz
        cases e
        exact ⟨F, p, ob, ks, ds, i, z, k, fh, rfl, hp, ho, nkey_rp hi e2, e2, hz, hv, q⟩
      · cases e
  | _ => simp only [putN] at e; cases e
theorem d_gPutN {i : Nat} (hu : At X W) (ho : PE X o (tVar i)) (hi : DO (GK X ex) X W e sa)
    (ha : ∀ v, assign (.Subscript o e pos) X.env v = (do
      let ov ← holding [v] (eval o X.env)
      let iv ← holding [v, ov] (eval e X.env)
      standAt pos
      holding [v, ov, iv] (setItem ov iv v)
      release [v, ov, iv] []) := by intro _; rfl) : DG (GK X ex) X W [] (.Subscript o e pos) (gPutN i sa) :=
  wkG (pg_sub ho hi (set_nd hu.un) ha) fun v σ H Q ⟨z, ρ, F, Rv, io, rel, rp, q⟩ => by
    rw [ev_gPutN] at q
    cases e1 : held ρ i with
    | none => rw [e1] at q; exact q.elim
    | some d0 =>
      rw [e1] at q
      obtain ⟨p, ob, e2, e3, e4, _⟩ := put_own (G := GK X ex) (d' := d0) rel e1
      refine ⟨_, e2, ρ, F, Rv, io, rel, ?_⟩
      cases e5 : sa ρ with
      | stuck => rw [e5] at q; exact q.elim
      | exc x ρ' => rw [e5] at q; exact q
      | ok o' ρ' =>
        rw [e5] at q
        simp only [R.bind_ok] at q
        intro iv H' F' le rel' ok
        cases e6 : held ρ' i with
        | none => rw [e6] at q; exact q.elim
        | some d =>
          cases e7 : o'.get ρ' with
          | none => rw [e6, e7] at q; exact q.elim
          | some k =>
            rw [e6, e7] at q
            simp only at q
            cases e8 : putN d k z with
            | none => rw [e8] at q; exact q.elim
            | some d' =>
              rw [e8] at q
              obtain ⟨p', ob', e9, e10, e11, e12⟩ := put_own (G := GK X ex) (d' := d') rel' e6
              rw [e2] at e9
              cases e9
              exact putN_set (G := GK X ex) rel'.fH e10 e11 (rel'.view (G := GK X ex) ok e7) (rp.mono le) e8 fun ob2 h2 => q σ _ F' le (e12 ob2 h2) ⟨rfl, fun _ _ => rfl⟩
/-! ### for k in d -/
/-- the keys of the locked dict at d -/
def Itn (d : Addr) (o ob : Obj) (as : List Addr) : It :=
  ⟨fun i H => H d = some (.frz o (AtO d ob)) ∧ i < as.length, fun i H x H' => H' = H ∧ ∃ q, as[i]? = some q ∧ x = .ref q, fun i H => H d = some (.frz o (AtO d ob)) ∧ as.length ≤ i⟩
theorem frzN {pins : List (Addr × Obj)} {σ : L2.St} {H : Hp} {s : Shared} {d : Addr} {o ob : Obj} (I : Inv X pins σ H s) (h : H d = some (.frz o (AtO d ob))) : s.heap.get? d = some ob := by
  obtain ⟨_, z, _⟩ := I.hok d _ h
  exact z
theorem turn_keysN {P : Program} {w : World} {K : PySem.W.Frag} {d : Addr} {o ob : Obj} {es : Array DictEntry} {ep : Nat} {as : List Addr} (it : Addr) (hod : ob.data = .dict es ep) (hes : es.toList.map (·.key) = as.map Value.ref) :
    Turn P w K tg (Itn d o ob as) [it] it (fun i h => h.IsKeyIter it d i as.length ep) := by
  have hsz : es.size = as.length := by
    have := congrArg List.length hes
    rw [List.length_map, List.length_map, Array.length_toList] at this
    exact this
  refine ⟨by simp, fun i h st b hb => ?_, fun i h h' st k => st.at fun oi e => k it (by simp) oi e, ?_, ?_, fun A i s Q E st h => ?_⟩
  · obtain rfl : b = it := by simpa using hb
    obtain ⟨oi, e, c, dd⟩ := st
    exact ⟨oi, e, fun v z => by rw [dd] at z; cases z⟩
  · intro X hP hw hK hc i pins s σ H E I hf st hg; subst hP hw hK
    obtain ⟨hd, hi⟩ := hg
    obtain ⟨f0, f1, f2, f3, f4, f5⟩ := hf it (by simp)
    have hlt : i < es.size := by omega
    have hk : (es[i]'hlt).key = .ref as[i] := by
      have h1 : (es.toList.map (·.key))[i]? = some (es[i]'hlt).key := by rw [List.getElem?_map, Array.getElem?_toList, Array.getElem?_eq_getElem hlt]; rfl
      rw [hes, List.getElem?_map, List.getElem?_eq_getElem hi] at h1
      exact (Option.some.inj h1).symm
    refine next_key_item (en := es[i]'hlt) st (frzN I hd) hod hsz (Array.getElem?_eq_getElem hlt) fun h' st' sb => ?_
    have I1 : Inv X pins σ H { s with heap := h' } := I.turned (t' := s.toks) (fun b ob hb e => (sb.2 b hb).trans e) f0 f1 f3 f4 f5
    obtain ⟨oi, e, c, dd⟩ := id st'
    exact ⟨_, rfl, go_of (s := { s with heap := h' }) e c dd (by decide) ⟨.ref as[i], H, I1, hk, ⟨rfl, as[i], List.getElem?_eq_getElem hi, rfl⟩, st', fun b hb => (hf b hb).1⟩⟩
  · intro X hP hw hK hc i pins s σ H E I hf st hg; subst hP hw hK
    obtain ⟨hd, hi⟩ := hg
    obtain ⟨f0, f1, f2, f3, f4, f5⟩ := hf it (by simp)
    exact next_key_end (I.ok.hd hc) st (frzN I hd) hod hsz hi fun h' eb => ⟨rfl, I.turned (t' := s.toks) (fun b ob hb e => eb b ob hb e) f0 f1 f3 f4 f5⟩
  · refine wpAny_pyIter_slot st.typeIs F.slot_dict_keyiterator_iter (wpAny_call_entry F.slot_dict_keyiterator_iter st.typeIs F.entry_dict_keyiterator_iter ?_ (F.args_dict_keyiterator_iter_1 _))
    show wpAny _ _ (ret (.ref it)) _ _ s
    exact wpAny_pure ⟨_, rfl, "dict_keyiterator", _, st.typeIs, F.slot_dict_keyiterator_next.lookup, h⟩
def keysN : D → Option (List D)
  | .nd ks _ => some ks
  | _ => none
def iNd (s : SE) : SA := fun ρ => (s ρ).bind fun d ρ' => ofO (keysN d) ρ'
@[simp] theorem ev_iNd (s : SE) (ρ : Env) : iNd s ρ = (s ρ).bind fun d ρ' => ofO (keysN d) ρ' := rfl
theorem d_iNd (h : DE (GK X ex) X W e ea) : DI (GK X ex) X W tg e (iNd ea) := by
  refine wkI (t := fun σ H R => tE (GK X ex) W ea σ H fun x H1 => ∃ (a : Addr) (o ob : Obj) (xs : List (NestedKey × Addr × Value)) (ks : List D) (vs : List V), x = .ref a ∧ H1 a = some (.frz o (AtO a ob)) ∧ NdC a ob xs ks vs ∧ R (Itn a o ob (xs.map fun x => x.2.1)) H1) ⟨fun pins s σ H R I hh => ?_⟩ fun σ H Q ⟨ρ, F, Rv, io, rel, q⟩ => ?_
  · refine thn (h.run pins s σ H _ I hh) fun v s1 ⟨x, H1, I1, r1, a, o, ob, xs, ks, vs, ex, hd, c, q⟩ => ?_
    subst ex
    obtain rfl : v = Value.ref a := r1
    obtain ⟨es, ep, h2, h3⟩ := c.en
    have h4 := h3 X.prog X.w
    have hk : es.toList.map (·.key) = (xs.map fun x => x.2.1).map Value.ref := by rw [h4, List.map_map, List.map_map]; rfl
    have hsz : es.size = (xs.map fun x => x.2.1).length := by rw [← Array.length_toList, h4]; simp
    refine iter_keys c.ns (frzN I1 hd) c.ex h2 (pi_one (tk := s1.toks) I1 _ (turn_keysN _ h2 hk) ⟨_, Heap.get?_push_size _ rfl, rfl, ?_⟩ q)
    rw [hsz] <;> rfl
  · refine ⟨ρ, F, Rv, io, rel, ?_⟩
    rw [ev_iNd] at q
    cases e : ea ρ with
    | stuck => rw [e] at q; exact q.elim
    | exc x ρ' => rw [e] at q; exact q
    | ok d ρ' =>
      rw [e, R.bind_ok] at q
      intro v H' F' le rel' rp
      cases rp with
      | @nd a o ob xs vs ks ds t c r1 r2 =>
        refine ⟨a, o, ob, xs, ks, vs, rfl, rel'.fH _ _ t, c, q _ H' F' le rel' ?_⟩
        have hl := r1.length
        rw [List.length_map] at hl
        refine ⟨fun i F1 H h1 h2 hi => ⟨h2 _ _ (h1 _ _ t), by rw [List.length_map, hl]; exact hi⟩, fun F1 H h1 h2 => ⟨h2 _ _ (h1 _ _ t), by rw [List.length_map, hl]; exact Nat.le_refl _⟩, fun i F1 H H' x d h1 h2 e y => ?_⟩
        obtain ⟨e1, q', e2, rfl⟩ := y
        rw [e1]
        obtain ⟨v, e3, r3⟩ := r1.get e
        rw [List.getElem?_map] at e2 e3
        cases e4 : xs[i]? with
        | none => rw [e4] at e2; cases e2
        | some z =>
          rw [e4] at e2 e3
          cases e2
          cases e3
          exact ⟨F1, New.refl h2, r3.mono h1⟩
      | _ => exact q.elim
end
end Dt

set_option Elab.async false
set_option linter.all false
set_option maxRecDepth 100000
set_option maxHeartbeats 4000000
/-! zip and enumerate of lists and tuples alike. -/
namespace Dt
open PySem PySem.Spec PyProof.Rows L2
/-- a tuple (true) or a list (false) -/
def SqK (K : PySem.W.Frag) : Bool → Hp → Addr → List V → Prop
  | true => SqT K
  | false => SqL K
def ItKd : Bool → Heap → Addr → Addr → Nat → Prop
  | true => fun h it a i => h.IsTupleIter it a i
  | false => fun h it a i => h.IsListIter it a i
def IsSq : Bool → Heap → Addr → Array Value → Prop
  | true => fun h a items => h.IsTuple a items
  | false => fun h a items => h.IsList a items
def itObj : Bool → Addr → Obj
  | true => fun a => { cls := .type "tuple_iterator", data := .fields #[.ref a, .int 0 0] }
  | false => fun a => { cls := .type "list_iterator", data := .fields #[.ref a, .int 0 0] }
theorem draws_sq {prog : Program} {w : World} {A : Around} (k : Bool) (hh : A.handled = none) (it a : Addr) (hne : a ≠ it) (items : Array Value) :
    Draws prog w A it [it, a] items.size (fun i v => items[i]? = some v) (fun i h => ItKd k h it a i ∧ IsSq k h a items) := by
  cases k
  · exact Draws.list hh it a hne items
  · exact Draws.tuple hh it a hne items
theorem begins_sq (k : Bool) (a : Addr) (items : Array Value) : Begins (.ref a) (itObj k a) fun h => IsSq k h a items := by
  cases k
  · exact begins_list a items
  · exact begins_tuple a items
theorem itKd_new {k : Bool} {h : Heap} {it a : Addr} (e : h.get? it = some (itObj k a)) : ItKd k h it a 0 := by
  cases k
  · exact ⟨_, e, rfl, rfl⟩
  · exact ⟨_, e, rfl, rfl⟩
theorem itKd_obj {k : Bool} {h : Heap} {it a : Addr} {i : Nat} (e : ItKd k h it a i) : ∃ o, h.get? it = some o ∧ ∀ v, o.data ≠ .cell v := by
  cases k
  · obtain ⟨o, e1, _, d⟩ := e
    exact ⟨o, e1, fun v q => by rw [d] at q; cases q⟩
  · obtain ⟨o, e1, _, d⟩ := e
    exact ⟨o, e1, fun v q => by rw [d] at q; cases q⟩
theorem itKd_at {k : Bool} {h h' : Heap} {it a : Addr} {i : Nat} (e : ItKd k h it a i) (q : ∀ o, h.get? it = some o → h'.get? it = some o) : ItKd k h' it a i := by
  cases k
  · exact Heap.IsListIter.at e q
  · exact Heap.IsTupleIter.at e q
theorem sq_get {X : Cx} {pins : List (Addr × Obj)} {σ : L2.St} {H : Hp} {s : Shared} {k : Bool} {a : Addr} {xs : List V} (I : Inv X pins σ H s) (h : SqK X.K k H a xs) : ∃ its : List Value, Vals xs its ∧ IsSq k s.heap a its.toArray ∧ a < s.heap.objs.size := by
  cases k
  · obtain ⟨its, rv, p, _⟩ := I.list h
    exact ⟨its, rv, p.isList, p.lt⟩
  · obtain ⟨its, rv, p, _⟩ := I.tuple h
    obtain ⟨o, ho, _⟩ := id p
    exact ⟨its, rv, (show s.heap.IsTuple a its.toArray from p), Heap.lt_size ho⟩
theorem sq_inj {X : Cx} {pins : List (Addr × Obj)} {σ : L2.St} {H : Hp} {s : Shared} {k : Bool} {a : Addr} {xs ys : List V} (I : Inv X pins σ H s) (h : SqK X.K k H a xs) (h' : SqK X.K k H a ys) : xs = ys := by
  cases k
  · exact I.list_inj h h'
  · exact I.tuple_inj h h'
/-- one turn of an iterator that hands out its own tuple -/
theorem turn_item {X : Cx} {elts : List Expr} {kk : Nat} {tpos : Pos} {it : Addr} {fp fpw wr : List Addr} {n i : Nat} {Pt : Nat → Array Value → Prop} {St : Nat → Heap → Prop} {Mid : Nat → Addr → Heap → Prop} {pins : List (Addr × Obj)} {s : Shared} {σ : L2.St} {H : Hp} {E : Value → Shared → Prop} {Y : V → Hp → Prop} {tn : Heap → Prop}
    (T : WalksT X.prog X.w X.A it fpw wr n Pt St Mid) (I : Inv X pins σ H s) (hf : ∀ b ∈ fp, FpOk X pins H b) (hi : i < n) (st : St i s.heap) (hw : ∀ b ∈ wr, b ∈ fp) (old : ∀ b ∈ fp, b < s.heap.objs.size)
    (hv : ∀ vals, Pt i vals → ∃ xs : List V, Vals xs vals.toList ∧ xs.length ≤ sizeLine ∧ ∀ T, H T = none → Y (.ref T) (upd H T (.tup xs))) (ht : ∀ h', St (i + 1) h' → tn h') :
    wpAny (model X.prog X.w) X.A (pyNext (.ref it)) (fun r s1 => ∃ u, r = some u ∧
      wpAny (model X.prog X.w) X.A (letOwnedTupleGo (.Tuple elts kk tpos) (.ref it) u) (fun _ s2 => ∃ x H', Inv X pins σ H' s2 ∧ RelV x u ∧ Y x H' ∧ tn s2.heap ∧ ∀ b ∈ fp, H' b = none) E s1) E s := by
  refine T.item i s _ E hi st fun Ta vals h' tk hP hT hI hM hk => ⟨_, rfl, T.go elts kk tpos i Ta { s with heap := h', toks := tk } _ E hM fun h'' st2 hk2 => ?_⟩
  obtain ⟨xs, rv, hl, hy⟩ := hv vals hP
  have nT : H Ta = none := I.hok.fresh hT
  obtain ⟨o, e1, e2, m, e3⟩ := hI
  have nw : Ta ∉ wr := T.apart i Ta h' hM
  have new : ObjOk X.prog X.w (upd H Ta (.tup xs)) h'' Ta (.tup xs) := ⟨hl, vals.toList, rv, o, hk2 Ta o nw e1, e2, m, by rw [Array.toArray_toList]; exact e3⟩
  exact ⟨.ref Ta, _, I.turnedNew (t' := tk) (ch := fp) (fun b o hb q => hk2 b o (fun z => hb (hw b z)) (hk b o (fun z => hb (hw b z)) q)) hf hT new, rfl, hy Ta nT, ht h'' st2,
    fun b hb => by rw [upd_ne (Nat.ne_of_lt (Nat.lt_of_lt_of_le (old b hb) hT))]; exact (hf b hb).1⟩
theorem turn_done {X : Cx} {it : Addr} {fp fpw wr : List Addr} {n : Nat} {Pt : Nat → Array Value → Prop} {St : Nat → Heap → Prop} {Mid : Nat → Addr → Heap → Prop} {pins : List (Addr × Obj)} {s : Shared} {σ : L2.St} {H : Hp} {E : Value → Shared → Prop}
    (T : WalksT X.prog X.w X.A it fpw wr n Pt St Mid) (I : Inv X pins σ H s) (hf : ∀ b ∈ fp, FpOk X pins H b) (st : St n s.heap) (hw : ∀ b ∈ wr, b ∈ fp) : wpAny (model X.prog X.w) X.A (pyNext (.ref it)) (fun r s1 => r = none ∧ Inv X pins σ H s1) E s :=
  T.done s _ E st fun h' tk hk => ⟨rfl, I.turnedL (t' := tk) (ch := fp) (fun b o hb q => hk b o (fun z => hb (hw b z)) q) hf⟩
/-! ### zip -/
def Itzz (K : PySem.W.Frag) (k1 k2 : Bool) (a b : Addr) : It :=
  ⟨fun i H => ∃ (xs ys : List V), SqK K k1 H a xs ∧ SqK K k2 H b ys ∧ i < min xs.length ys.length,
    fun i H v H' => ∃ T x y, v = .ref T ∧ H T = none ∧ H' = upd H T (.tup [x, y]) ∧ (∀ xs, SqK K k1 H a xs → xs[i]? = some x) ∧ ∀ ys, SqK K k2 H b ys → ys[i]? = some y,
    fun i H => ∃ xs ys : List V, SqK K k1 H a xs ∧ SqK K k2 H b ys ∧ i = min xs.length ys.length⟩
theorem vals_at {xs : List V} {its : List Value} {i : Nat} {u : Value} (r : Vals xs its) (e : its.toArray[i]? = some u) : ∃ x, xs[i]? = some x ∧ RelV x u := by
  have e : its[i]? = some u := by simpa using e
  have hl := r.length
  have hi : i < its.length := (List.getElem?_eq_some_iff.mp e).1
  obtain ⟨u', e1, rr⟩ := r.get (x := xs[i]'(by omega)) (i := i) (by simp [show i < xs.length by omega])
  rw [e] at e1
  cases e1
  exact ⟨_, by simp [show i < xs.length by omega], rr⟩
theorem turn_zz {P : Program} {w : World} {K : PySem.W.Frag} {elts : List Expr} {kk : Nat} {tpos : Pos} {a b N : Addr} (k1 k2 : Bool) (ha : a < N) (hb : b < N) :
    Turn P w K (.Tuple elts kk tpos) (Itzz K k1 k2 a b) [N + 4, N + 2, N + 3, N, N + 1] (N + 4) (fun i h => IsZip h (N + 4) (N + 2) (N + 3) .none ∧ IsTupOf2 h (N + 2) (.ref N) (.ref (N + 1)) ∧ (∃ x y, IsTupOf2 h (N + 3) x y) ∧ ItKd k1 h N a i ∧ ItKd k2 h (N + 1) b i) := by
  have S : ZipSep2 (N + 4) (N + 2) (N + 3) N (N + 1) [N, a] [N + 1, b] := zip_sep2 (fun c hc => by rw [List.mem_singleton.mp hc]; exact ha) fun c hc => by rw [List.mem_singleton.mp hc]; exact hb
  have nea : a ≠ N := Nat.ne_of_lt ha
  have neb : b ≠ N + 1 := Nat.ne_of_lt (Nat.lt_succ_of_lt hb)
  have hw : ∀ c ∈ [N + 4, N + 3, N, N + 1], c ∈ [N + 4, N + 2, N + 3, N, N + 1] := fun c hc => by
    have : c = N + 4 ∨ c = N + 3 ∨ c = N ∨ c = N + 1 := by simpa using hc
    rcases this with rfl | rfl | rfl | rfl <;> simp
  have ob : ∀ i h, (IsZip h (N + 4) (N + 2) (N + 3) .none ∧ IsTupOf2 h (N + 2) (.ref N) (.ref (N + 1)) ∧ (∃ x y, IsTupOf2 h (N + 3) x y) ∧ ItKd k1 h N a i ∧ ItKd k2 h (N + 1) b i) → ∀ c ∈ [N + 4, N + 2, N + 3, N, N + 1], ∃ o, h.get? c = some o ∧ ∀ v, o.data ≠ .cell v := fun i h st c hc => by
    obtain ⟨hz, hT, ⟨x, y, hO⟩, h1, h2⟩ := st
    have : c = N + 4 ∨ c = N + 2 ∨ c = N + 3 ∨ c = N ∨ c = N + 1 := by simpa using hc
    rcases this with rfl | rfl | rfl | rfl | rfl
    · exact ⟨_, hz, fun v q => nomatch q⟩
    · exact ⟨_, hT, fun v q => nomatch q⟩
    · exact ⟨_, hO, fun v q => nomatch q⟩
    · exact itKd_obj h1
    · exact itKd_obj h2
  refine ⟨by simp, ob, fun i h h' st k => ?_, ?_, ?_, fun A i s Q E st h => wpAny_pyIter_zip st.1 h⟩
  · obtain ⟨hz, hT, ⟨x, y, hO⟩, h1, h2⟩ := st
    exact ⟨k _ (by simp) _ hz, k _ (by simp) _ hT, ⟨x, y, k _ (by simp) _ hO⟩, itKd_at h1 fun o q => k N (by simp) o q, itKd_at h2 fun o q => k (N + 1) (by simp) o q⟩
  · intro X hP hW hK hc i pins s σ H E I hf st hg; subst hP hW hK
    obtain ⟨xs, ys, hx, hy, hi⟩ := hg
    obtain ⟨its, rv, p1, _⟩ := sq_get I hx
    obtain ⟨its2, rv2, p2, _⟩ := sq_get I hy
    have l1 := rv.length
    have l2 := rv2.length
    have D := WalksT.zipD2 S (draws_sq (prog := X.prog) (w := X.w) (A := X.A.in1) k1 (I.ok.hd hc) N a nea its.toArray) (draws_sq (A := X.A.in1) k2 (I.ok.hd hc) (N + 1) b neb its2.toArray)
    have old : ∀ c ∈ [N + 4, N + 2, N + 3, N, N + 1], c < s.heap.objs.size := fun c hc => let ⟨o, e, _⟩ := ob i _ st c hc; Heap.lt_size e
    obtain ⟨hz, hT, hO, h1, h2⟩ := st
    refine turn_item (Y := (Itzz X.K k1 k2 a b).yld i H) (tn := fun h => IsZip h (N + 4) (N + 2) (N + 3) .none ∧ IsTupOf2 h (N + 2) (.ref N) (.ref (N + 1)) ∧ (∃ x y, IsTupOf2 h (N + 3) x y) ∧ ItKd k1 h N a (i + 1) ∧ ItKd k2 h (N + 1) b (i + 1)) D I hf (by simp; omega) ⟨hz, hT, hO, ⟨h1, p1⟩, ⟨h2, p2⟩⟩ hw old (fun vals hv => ?_) fun h' st' => ⟨st'.1, st'.2.1, st'.2.2.1, st'.2.2.2.1.1, st'.2.2.2.2.1⟩
    obtain ⟨u1, u2, e1, e2, rfl⟩ := hv
    obtain ⟨x, ex, rx⟩ := vals_at rv e1
    obtain ⟨y, ey, ry⟩ := vals_at rv2 e2
    exact ⟨[x, y], .cons rx (.cons ry .nil), by show 2 ≤ sizeLine; decide, fun T hT => ⟨T, x, y, rfl, hT, rfl, fun l hl => by rw [sq_inj I hl hx]; exact ex, fun l hl => by rw [sq_inj I hl hy]; exact ey⟩⟩
  · intro X hP hW hK hc i pins s σ H E I hf st hg; subst hP hW hK
    obtain ⟨xs, ys, hx, hy, hi⟩ := hg
    obtain ⟨its, rv, p1, _⟩ := sq_get I hx
    obtain ⟨its2, rv2, p2, _⟩ := sq_get I hy
    have l1 := rv.length
    have l2 := rv2.length
    have D := WalksT.zipD2 S (draws_sq (prog := X.prog) (w := X.w) (A := X.A.in1) k1 (I.ok.hd hc) N a nea its.toArray) (draws_sq (A := X.A.in1) k2 (I.ok.hd hc) (N + 1) b neb its2.toArray)
    obtain ⟨hz, hT, hO, h1, h2⟩ := st
    have e : i = min its.toArray.size its2.toArray.size := by simp; omega
    exact turn_done D I hf ⟨hz, hT, hO, ⟨by rw [← e]; exact h1, p1⟩, ⟨by rw [← e]; exact h2, p2⟩⟩ hw
def iZipG (K : PySem.W.Frag) (ta : TA) : TI := fun σ H R => ta σ H fun vs H1 => ∃ k1 k2 a b xs ys, vs = [.ref a, .ref b] ∧ SqK K k1 H1 a xs ∧ SqK K k2 H1 b ys ∧ R (Itzz K k1 k2 a b) H1
theorem pi_zz {X : Cx} {e e2 : Expr} {ta : TA} {p pos tpos : Pos} {elts : List Expr} {kk : Nat} (hg : Gl X "zip") (hm : X.mg "zip" = none) (ha : PA X [e, e2] ta)
    (hs : starEach [e, e2] X.env = (false, eval e X.env) :: starEach [e2] X.env := by rfl) (hpl : (backTo pos (starEach [e2] X.env)).any (·.1) = false := by rfl) :
    PI X (.Tuple elts kk tpos) (.Call (.Name "zip" p) [e, e2] [] pos) (iZipG X.K ta) := by
  refine ⟨fun pins s σ H R I h => Call_ (ld_blt I hg hm boot_zip (callWith_type1 (thn (ha.run pos pins s σ H _ I h) fun us s1 ⟨vs, H1, I1, r1, k1, k2, a, b, xs, ys, ex, hx, hy, q1⟩ => ?_) hs hpl))⟩
  subst ex
  cases r1 with
  | cons r rr =>
    cases rr with
    | cons r' rr =>
      cases rr; cases r; cases r'
      obtain ⟨its, rv, p1, la⟩ := sq_get I1 hx
      obtain ⟨its2, rv2, p2, lb⟩ := sq_get I1 hy
      refine zip_begins2 (begins_sq k1 a its.toArray) (begins_sq k2 b its2.toArray) p1 p2 fun h' hz hTI hTO h1 h2 hsz hk => wpAny_pyIter_zip hz ?_
      refine ⟨_, _, _, _, H1, rfl, I1.kept (t' := s1.toks) hk, turn_zz k1 k2 la lb, ⟨hz, hTI, ⟨_, _, hTO⟩, itKd_new h1, itKd_new h2⟩, fun c hcm => ?_, q1⟩
      have : c = s1.heap.objs.size + 4 ∨ c = s1.heap.objs.size + 2 ∨ c = s1.heap.objs.size + 3 ∨ c = s1.heap.objs.size ∨ c = s1.heap.objs.size + 1 := by simpa using hcm
      have hle : s1.heap.objs.size ≤ c := by
        rcases this with rfl | rfl | rfl | rfl | rfl <;> first | exact Nat.le_add_right _ _ | exact Nat.le_refl _
      exact I1.fpOk hle (I1.hok.fresh hle)
/-- the parts of a list or a tuple -/
def seqD : D → Option (List D)
  | .lst xs => some xs
  | .tup xs => some xs
  | .arg xs => some xs
  | _ => none
theorem seqD_sq {K : PySem.W.Frag} {F : Hp} {v : V} {d : D} {xs : List D} (h : Rp K F v d) (e : seqD d = some xs) : ∃ k a vs, v = .ref a ∧ SqK K k F a vs ∧ Rps K F vs xs := by
  cases h with
  | tup t r => cases e; exact ⟨true, _, _, rfl, t.sq, r⟩
  | arg t r => cases e; exact ⟨true, _, _, rfl, t, r⟩
  | lst t r => cases e; exact ⟨false, _, _, rfl, SqL.of t, r⟩
  | _ => cases e
theorem FLe.sqK {K : PySem.W.Frag} {F G : Hp} (h : FLe F G) {k : Bool} {a : Addr} {xs : List V} (r : SqK K k F a xs) : SqK K k G a xs := by
  cases k
  · exact h.sqL r
  · exact h.sqT r
theorem iter_zz {K : PySem.W.Frag} {F : Hp} {k1 k2 : Bool} {a b : Addr} {vs ws : List V} {xs ys : List D} (ha : SqK K k1 F a vs) (hb : SqK K k2 F b ws) (rx : Rps K F vs xs) (ry : Rps K F ws ys) : IterOk K (Itzz K k1 k2 a b) F (pairUp xs ys) := by
  have at1 : ∀ {F1 H : Hp}, FLe F F1 → FLe F1 H → SqK K k1 H a vs := fun h1 h2 => h2.sqK (h1.sqK ha)
  have at2 : ∀ {F1 H : Hp}, FLe F F1 → FLe F1 H → SqK K k2 H b ws := fun h1 h2 => h2.sqK (h1.sqK hb)
  have lx := rx.length
  have ly := ry.length
  have lp : (pairUp xs ys).length = min xs.length ys.length := by unfold pairUp; rw [List.length_zipWith]
  refine ⟨fun i F1 H h1 h2 hi => ⟨vs, ws, at1 h1 h2, at2 h1 h2, by rw [lx, ly, ← lp]; exact hi⟩, fun F1 H h1 h2 => ⟨vs, ws, at1 h1 h2, at2 h1 h2, by rw [lx, ly, ← lp]⟩, fun i F1 H H' x d h1 h2 e y => ?_⟩
  obtain ⟨T, v, w, rfl, hT, rfl, g1, g2⟩ := y
  unfold pairUp at e
  rw [List.getElem?_zipWith] at e
  cases ex : xs[i]? with
  | none => rw [ex] at e; cases e
  | some dx =>
    cases ey : ys[i]? with
    | none => rw [ex, ey] at e; cases e
    | some dy =>
      rw [ex, ey] at e
      cases e
      obtain ⟨v', e1, r1⟩ := rx.get ex
      obtain ⟨w', e2, r2⟩ := ry.get ey
      have e3 := g1 vs (at1 h1 h2)
      have e4 := g2 ws (at2 h1 h2)
      rw [e1] at e3; cases e3
      rw [e2] at e4; cases e4
      have n := New.obj h2 hT (.tup [v, w])
      exact ⟨_, n, .arg (.inl (.inl upd_same)) (.cons (r1.mono (h1.trans n.f)) (.cons (r2.mono (h1.trans n.f)) .nil))⟩
def zipG : List D → Option (List D)
  | [x, y] => (seqD x).bind fun xs => (seqD y).map fun ys => pairUp xs ys
  | _ => none
def iZipX (s : SA) : SA := fun ρ => (s ρ).bind fun ds ρ' => ofO (zipG ds) ρ'
@[simp] theorem ev_iZipX (s : SA) (ρ : Env) : iZipX s ρ = (s ρ).bind fun ds ρ' => ofO (zipG ds) ρ' := rfl
section
variable {ex : String → Addr} {X : Cx} {W : WX} {e : Expr} {p pos : Pos} {sA : SA}
theorem d_iZipX {e2 : Expr} {elts : List Expr} {kk : Nat} {tpos : Pos} (hg : Gl X "zip") (hm : X.mg "zip" = none) (ha : DA (GK X ex) X W [e, e2] sA) (hs : starEach [e, e2] X.env = (false, eval e X.env) :: starEach [e2] X.env := by rfl) (hpl : (backTo pos (starEach [e2] X.env)).any (·.1) = false := by rfl) :
    DI (GK X ex) X W (.Tuple elts kk tpos) (.Call (.Name "zip" p) [e, e2] [] pos) (iZipX sA) :=
  wkI (pi_zz hg hm ha hs hpl) fun σ H Q ⟨ρ, F, Rv, io, rel, q⟩ => by
    refine ⟨ρ, F, Rv, io, rel, ?_⟩
    rw [ev_iZipX] at q
    cases e1 : sA ρ with
    | stuck => rw [e1] at q; exact q.elim
    | exc x ρ' => rw [e1] at q; exact q
    | ok ds ρ' =>
      rw [e1, R.bind_ok] at q
      intro vs H' F' le rel' rs
      cases e3 : zipG ds with
      | none => rw [e3] at q; exact q.elim
      | some zs =>
        rw [e3] at q
        unfold zipG at e3
        split at e3
        · rename_i x y
          cases ea : seqD x with
          | none => rw [ea] at e3; cases e3
          | some xs =>
            cases eb : seqD y with
            | none => rw [ea, eb] at e3; cases e3
            | some ys =>
              rw [ea, eb] at e3
              cases e3
              cases rs with
              | cons r1 rs =>
                cases rs with
                | cons r2 rs =>
                  cases rs
                  obtain ⟨k1, a, us, rfl, s1, q1⟩ := seqD_sq r1 ea
                  obtain ⟨k2, b, ws, rfl, s2, q2⟩ := seqD_sq r2 eb
                  exact ⟨k1, k2, a, b, us, ws, rfl, rel'.fH.sqK s1, rel'.fH.sqK s2, q _ H' F' le rel' (iter_zz s1 s2 q1 q2)⟩
        · cases e3
end
end Dt

set_option Elab.async false
set_option linter.all false
set_option maxRecDepth 100000
set_option maxHeartbeats 4000000
/-! enumerate of lists and tuples alike; range with a step below; max of a list; order of data; two new lists at once; while without a bound. -/
namespace Dt
open PySem PySem.Spec PyProof.Rows L2
/-! ### enumerate -/
theorem enum_new1 {v : Value} {o : Obj} {H : Heap → Prop} (B : Begins v o H) :
    Meets (Builtin.«enumerate.__new__» ⟨[.type "enumerate", v], []⟩) (fun _ R s => H s.heap ∧ R (.ok (.ret (.ref (s.heap.push o).objs.size)))
        { s with heap := (s.heap.push o).push { cls := .type "enumerate", data := .fields #[.none, .bool false, .ref s.heap.objs.size, rawInt 0, .none, .none] } }) :=
  .of_wp fun prog w A R s h => by
    obtain ⟨hp, g, d, tk, os⟩ := s
    obtain ⟨h1, h⟩ := h
    have hs := sub_enumerate
    have q1 : ∀ {A' : Around} {E : Value → Shared → Prop} {Q : Value → Shared → Prop}, Q (.ref hp.objs.size) ⟨hp.push o, g, d, tk, os⟩ → wpAny (model prog w) A' (pyIter v) Q E ⟨hp, g, d, tk, os⟩ := fun q => B.iter prog w _ _ ⟨hp, g, d, tk, os⟩ _ h1 q
    wp_walk using q1
    refine wpAny_stack_any fun st => wpAny_pure ?_
    split
    · rename_i c _ _ _ _ _
      cases (c == Value.type "enumerate") <;> (wp_walk using q1; exact ⟨_, rfl, h⟩)
    · wp_walk using q1
      exact ⟨_, rfl, h⟩
theorem call_enum1 {prog : Program} {w : World} {A : Around} {E : Value → Shared → Prop} {s : Shared} {v : Value} {o : Obj} {H : Heap → Prop} {Q : Value → Shared → Prop} (B : Begins v o H) (h1 : H s.heap)
    (h : ∀ h', IsEnum h' (s.heap.objs.size + 1) s.heap.objs.size 0 .none → h'.get? s.heap.objs.size = some o → (∀ b o, s.heap.get? b = some o → h'.get? b = some o) → Q (.ref (s.heap.objs.size + 1)) { s with heap := h' }) :
    wpAny (model prog w) A (call (.type "enumerate") [v]) Q E s := by
  refine callType_new F.called_enumerate (by decide) (F.typeCall_enumerate_1 _) (F.newCall_enumerate_1 _) (fun obj => F.args_object_init_2 obj _) F.entry_enumerate_new (enum_new1 B) ⟨h1, ?_⟩
  have hz : (s.heap.push o).objs.size = s.heap.objs.size + 1 := Heap.size_push ..
  show _ ∧ _
  rw [hz]
  have he := Heap.get?_push_size (s.heap.push o) (o := { cls := .type "enumerate", data := .fields #[.none, .bool false, .ref s.heap.objs.size, rawInt 0, .none, .none] }) rfl
  rw [hz] at he
  exact ⟨⟨_, he, rfl⟩, h _ he (Heap.get?_push_of_some _ (Heap.get?_push_size _ B.free)) fun b o x => Heap.get?_push_of_some _ (Heap.get?_push_of_some _ x)⟩
def Iten (K : PySem.W.Frag) (k : Bool) (a : Addr) : It :=
  ⟨fun i H => ∃ xs : List V, SqK K k H a xs ∧ i < xs.length, fun i H v H' => ∃ T x, v = .ref T ∧ H T = none ∧ H' = upd H T (.tup [.int (i : Nat), x]) ∧ ∀ xs, SqK K k H a xs → xs[i]? = some x, fun i H => ∃ xs : List V, SqK K k H a xs ∧ i = xs.length⟩
theorem turn_en {P : Program} {w : World} {K : PySem.W.Frag} {elts : List Expr} {kk : Nat} {tpos : Pos} {a N : Addr} (k : Bool) (ha : a < N) :
    Turn P w K (.Tuple elts kk tpos) (Iten K k a) [N + 1, N] (N + 1) (fun i h => (∃ old, IsEnum h (N + 1) N ((i : Nat) : Int) old) ∧ ItKd k h N a i) := by
  have nea : a ≠ N := Nat.ne_of_lt ha
  have hei : N + 1 ≠ N := Nat.succ_ne_self N
  have hef : N + 1 ∉ [N, a] := by
    intro z
    have : N + 1 = N ∨ N + 1 = a := by simpa using z
    rcases this with z | z
    · exact hei z
    · exact Nat.lt_irrefl N (Nat.lt_trans (Nat.lt_of_lt_of_eq (Nat.lt_succ_self N) z) ha)
  have hw : ∀ c ∈ [N + 1, N], c ∈ [N + 1, N] := fun c hc => hc
  have ob : ∀ i h, ((∃ old, IsEnum h (N + 1) N ((i : Nat) : Int) old) ∧ ItKd k h N a i) → ∀ c ∈ [N + 1, N], ∃ o, h.get? c = some o ∧ ∀ v, o.data ≠ .cell v := fun i h st c hc => by
    obtain ⟨⟨old, he⟩, h1⟩ := st
    have : c = N + 1 ∨ c = N := by simpa using hc
    rcases this with rfl | rfl
    · exact ⟨_, he, fun v q => nomatch q⟩
    · exact itKd_obj h1
  refine ⟨by simp, ob, fun i h h' st q => ?_, ?_, ?_, fun A i s Q E st h => let ⟨⟨_, he⟩, _⟩ := st; wpAny_pyIter_enum he h⟩
  · obtain ⟨⟨old, he⟩, h1⟩ := st
    exact ⟨⟨old, q _ (by simp) _ he⟩, itKd_at h1 fun o e => q N (by simp) o e⟩
  · intro X hP hW hK hc i pins s σ H E I hf st hg; subst hP hW hK
    obtain ⟨xs, hx, hi⟩ := hg
    obtain ⟨its, rv, p1, _⟩ := sq_get I hx
    have l1 := rv.length
    have D := WalksT.enumerateD (draws_sq (prog := X.prog) (w := X.w) (A := X.A.in1) k (I.ok.hd hc) N a nea its.toArray) (N + 1) hei hef (by simp)
    have old : ∀ c ∈ [N + 1, N], c < s.heap.objs.size := fun c hc => let ⟨o, e, _⟩ := ob i _ st c hc; Heap.lt_size e
    obtain ⟨he, h1⟩ := st
    refine turn_item (Y := (Iten X.K k a).yld i H) (tn := fun h => (∃ old, IsEnum h (N + 1) N ((i + 1 : Nat) : Int) old) ∧ ItKd k h N a (i + 1)) D I hf (by simp; omega) ⟨he, h1, p1⟩ hw old (fun vals hv => ?_) fun h' st' => ⟨st'.1, st'.2.1⟩
    obtain ⟨t, u, e1, rfl⟩ := hv
    obtain ⟨x, ex, rx⟩ := vals_at rv e1
    exact ⟨[.int (i : Nat), x], .cons ⟨_, rfl⟩ (.cons rx .nil), by show 2 ≤ sizeLine; decide, fun T hT => ⟨T, x, rfl, hT, rfl, fun l hl => by rw [sq_inj I hl hx]; exact ex⟩⟩
  · intro X hP hW hK hc i pins s σ H E I hf st hg; subst hP hW hK
    obtain ⟨xs, hx, hi⟩ := hg
    obtain ⟨its, rv, p1, _⟩ := sq_get I hx
    have l1 := rv.length
    have D := WalksT.enumerateD (draws_sq (prog := X.prog) (w := X.w) (A := X.A.in1) k (I.ok.hd hc) N a nea its.toArray) (N + 1) hei hef (by simp)
    obtain ⟨he, h1⟩ := st
    have e : i = its.toArray.size := by simp; omega
    exact turn_done D I hf ⟨by rw [← e]; exact he, by rw [← e]; exact h1, p1⟩ hw
def iEnumG (K : PySem.W.Frag) (ta : TA) : TI := fun σ H R => ta σ H fun vs H1 => ∃ k a xs, vs = [.ref a] ∧ SqK K k H1 a xs ∧ R (Iten K k a) H1
theorem pi_en {X : Cx} {e : Expr} {ta : TA} {p pos tpos : Pos} {elts : List Expr} {kk : Nat} (hg : Gl X "enumerate") (hm : X.mg "enumerate" = none) (ha : PA X [e] ta) (hs : starEach [e] X.env = [(false, eval e X.env)] := by rfl) :
    PI X (.Tuple elts kk tpos) (.Call (.Name "enumerate" p) [e] [] pos) (iEnumG X.K ta) := by
  refine ⟨fun pins s σ H R I h => Call_ (ld_blt I hg hm boot_enumerate (callWith_type1 (thn (ha.run pos pins s σ H _ I h) fun us s1 ⟨vs, H1, I1, r1, k, a, xs, ex, hx, q1⟩ => ?_) hs rfl))⟩
  subst ex
  cases r1 with
  | cons r rr =>
    cases rr; cases r
    obtain ⟨its, rv, p1, la⟩ := sq_get I1 hx
    refine call_enum1 (begins_sq k a its.toArray) p1 fun h' he hi hk => wpAny_pyIter_enum he ?_
    refine ⟨_, _, _, _, H1, rfl, I1.kept (t' := s1.toks) hk, turn_en k la, ⟨⟨.none, he⟩, itKd_new hi⟩, fun c hcm => ?_, q1⟩
    have : c = s1.heap.objs.size + 1 ∨ c = s1.heap.objs.size := by simpa using hcm
    have hle : s1.heap.objs.size ≤ c := by
      rcases this with rfl | rfl <;> first | exact Nat.le_add_right _ _ | exact Nat.le_refl _
    exact I1.fpOk hle (I1.hok.fresh hle)
def numbered : Nat → List D → List D
  | _, [] => []
  | n, d :: ds => .arg [.int (n : Nat), d] :: numbered (n + 1) ds
theorem numbered_get : ∀ {n i : Nat} {ds : List D} {d : D}, (numbered n ds)[i]? = some d → ∃ z, ds[i]? = some z ∧ d = .arg [.int ((n + i : Nat) : Int), z]
  | _, _, [], _, h => by simp [numbered] at h
  | n, 0, z :: ds, d, h => by simp [numbered] at h; exact ⟨z, rfl, by simpa using h.symm⟩
  | n, i + 1, z :: ds, d, h => by
    simp only [numbered, List.getElem?_cons_succ] at h
    obtain ⟨y, e1, e2⟩ := numbered_get h
    exact ⟨y, by simpa using e1, by rw [e2]; congr 3; omega⟩
theorem numbered_len : ∀ {n : Nat} {ds : List D}, (numbered n ds).length = ds.length
  | _, [] => rfl
  | n, d :: ds => by simp [numbered, numbered_len]
theorem iter_en {K : PySem.W.Frag} {F : Hp} {k : Bool} {a : Addr} {vs : List V} {xs : List D} (ha : SqK K k F a vs) (rx : Rps K F vs xs) : IterOk K (Iten K k a) F (numbered 0 xs) := by
  have at1 : ∀ {F1 H : Hp}, FLe F F1 → FLe F1 H → SqK K k H a vs := fun h1 h2 => h2.sqK (h1.sqK ha)
  have lx := rx.length
  refine ⟨fun i F1 H h1 h2 hi => ⟨vs, at1 h1 h2, by rw [lx]; rw [numbered_len] at hi; exact hi⟩, fun F1 H h1 h2 => ⟨vs, at1 h1 h2, by rw [lx, numbered_len]⟩, fun i F1 H H' x d h1 h2 e y => ?_⟩
  obtain ⟨T, v, rfl, hT, rfl, g1⟩ := y
  obtain ⟨z, ez, rfl⟩ := numbered_get e
  obtain ⟨v', e1, r1⟩ := rx.get ez
  have e3 := g1 vs (at1 h1 h2)
  rw [e1] at e3; cases e3
  have n := New.obj h2 hT (.tup [.int (i : Nat), v])
  refine ⟨_, n, .arg (.inl (.inl upd_same)) (.cons ?_ (.cons (r1.mono (h1.trans n.f)) .nil))⟩
  rw [Nat.zero_add]
  exact .int _
def enumD : List D → Option (List D)
  | [x] => (seqD x).map (numbered 0)
  | _ => none
def iEnumX (s : SA) : SA := fun ρ => (s ρ).bind fun ds ρ' => ofO (enumD ds) ρ'
@[simp] theorem ev_iEnumX (s : SA) (ρ : Env) : iEnumX s ρ = (s ρ).bind fun ds ρ' => ofO (enumD ds) ρ' := rfl
section
variable {ex : String → Addr} {X : Cx} {W : WX} {a b c e tg : Expr} {p pos : Pos} {sA : SA} {G : Gx}
theorem d_iEnumX {elts : List Expr} {kk : Nat} {tpos : Pos} (hg : Gl X "enumerate") (hm : X.mg "enumerate" = none) (ha : DA (GK X ex) X W [e] sA) (hs : starEach [e] X.env = [(false, eval e X.env)] := by rfl) :
    DI (GK X ex) X W (.Tuple elts kk tpos) (.Call (.Name "enumerate" p) [e] [] pos) (iEnumX sA) :=
  wkI (pi_en hg hm ha hs) fun σ H Q ⟨ρ, F, Rv, io, rel, q⟩ => by
    refine ⟨ρ, F, Rv, io, rel, ?_⟩
    rw [ev_iEnumX] at q
    cases e1 : sA ρ with
    | stuck => rw [e1] at q; exact q.elim
    | exc x ρ' => rw [e1] at q; exact q
    | ok ds ρ' =>
      rw [e1, R.bind_ok] at q
      intro vs H' F' le rel' rs
      cases e3 : enumD ds with
      | none => rw [e3] at q; exact q.elim
      | some zs =>
        rw [e3] at q
        unfold enumD at e3
        split at e3
        · rename_i x
          cases ea : seqD x with
          | none => rw [ea] at e3; cases e3
          | some xs =>
            rw [ea] at e3
            cases e3
            cases rs with
            | cons r1 rs =>
              cases rs
              obtain ⟨k, a, us, rfl, s1, q1⟩ := seqD_sq r1 ea
              exact ⟨k, a, us, rfl, rel'.fH.sqK s1, q _ H' F' le rel' (iter_en s1 q1)⟩
        · cases e3
/-! ### range(i, j, -1) -/
def downto (lo : Int) (n : Nat) : List D := (List.range n).map fun i => .int (lo + (i : Nat) * (-1))
theorem iter_down {K : PySem.W.Frag} {F : Hp} {lo : Int} {n : Nat} : IterOk K (Itc lo (-1) n) F (downto lo n) := by
  refine ⟨fun i F1 H h1 h2 hi => by simpa [downto, Itc] using hi, fun F1 H h1 h2 => by simp [downto, Itc], fun i F1 H H' x d h1 h2 e y => ?_⟩
  obtain ⟨e1, rfl⟩ := y
  rw [e1]
  refine ⟨F1, New.refl h2, ?_⟩
  unfold downto at e
  rw [List.getElem?_map] at e
  have hi : i < n := by
    by_cases h : i < n
    · exact h
    · rw [List.getElem?_eq_none (by simp; omega)] at e; cases e
  rw [List.getElem?_range hi] at e
  cases e
  exact .int _
def rng3D : List D → Option (List D)
  | [.int i, .int j, .int k] => if k = -1 ∧ -(2 ^ 62) ≤ i ∧ i < 2 ^ 62 ∧ -(2 ^ 62) ≤ j ∧ j < 2 ^ 62 then some (downto i (i - j).toNat) else none
  | _ => none
def iRng3' (s : SA) : SA := fun ρ => (s ρ).bind fun ds ρ' => ofO (rng3D ds) ρ'
@[simp] theorem ev_iRng3 (s : SA) (ρ : Env) : iRng3' s ρ = (s ρ).bind fun ds ρ' => ofO (rng3D ds) ρ' := rfl
theorem d_iRng3 (hg : Gl X "range") (hm : X.mg "range" = none) (ha : DA (GK X ex) X W [a, b, c] sA) (hs : starEach [a, b, c] X.env = (false, eval a X.env) :: starEach [b, c] X.env := by rfl) (hpl : (backTo pos (starEach [b, c] X.env)).any (·.1) = false := by rfl) :
    DI (GK X ex) X W tg (.Call (.Name "range" p) [a, b, c] [] pos) (iRng3' sA) :=
  wkI (pi_range3 hg hm ha hs hpl) fun σ H Q ⟨ρ, F, Rv, io, rel, q⟩ => by
    refine ⟨ρ, F, Rv, io, rel, ?_⟩
    rw [ev_iRng3] at q
    cases e : sA ρ with
    | stuck => rw [e] at q; exact q.elim
    | exc x ρ' => rw [e] at q; exact q
    | ok ds ρ' =>
      rw [e, R.bind_ok] at q
      intro vs H' F' le rel' rp
      cases e2 : rng3D ds with
      | none => rw [e2] at q; exact q.elim
      | some zs =>
        rw [e2] at q
        unfold rng3D at e2
        split at e2
        · rename_i i j k
          split at e2
          · rename_i hj
            cases e2
            obtain ⟨rfl, h1, h2, h3, h4⟩ := hj
            cases rp with
            | cons r rr => cases rr with
              | cons r2 rr => cases rr with
                | cons r3 rr => cases rr; cases r; cases r2; cases r3; exact ⟨i, j, -1, _, rfl, RgC.neg h1 h2 h3 h4, q _ H' F' le rel' iter_down⟩
          · cases e2
        · cases e2
/-! ### max(xs) -/
def maxI : List Int → Int
  | [] => 0
  | [x] => x
  | x :: y :: r => if maxI (y :: r) ≤ x then x else maxI (y :: r)
theorem maxI_ge : ∀ {ns : List Int} {y : Int}, y ∈ ns → y ≤ maxI ns
  | [x], y, h => by simp at h; subst h; exact Int.le_refl _
  | x :: z :: r, y, h => by
    unfold maxI
    rcases List.mem_cons.mp h with rfl | h
    · split <;> omega
    · have := maxI_ge h
      split <;> omega
theorem maxI_mem : ∀ {ns : List Int}, ns ≠ [] → maxI ns ∈ ns
  | [x], _ => by simp [maxI]
  | x :: z :: r, _ => by
    unfold maxI
    split
    · exact List.mem_cons_self
    · exact List.mem_cons_of_mem _ (maxI_mem (by simp))
def gMaxL : List D → Option D
  | [.lst xs] => (intsOf xs).bind fun ns => if ns = [] then none else some (.int (maxI ns))
  | _ => none
theorem psem_maxL : PSem G (rMax G.K) gMaxL := fun F H vs ds d Q fh vw e q => by
  unfold gMaxL at e
  split at e
  · rename_i xs
    cases e1 : intsOf xs with
    | none => rw [e1] at e; cases e
    | some ns =>
      rw [e1, Option.bind_some] at e
      split at e
      · cases e
      · rename_i hn
        cases e
        obtain ⟨v, rfl, h⟩ := vw.one
        obtain ⟨a, zs, rfl, t, r⟩ := h.lst fh
        have ez := ints_vw r e1
        subst ez
        refine ⟨a, ns, rfl, SqL.of t, List.length_pos_iff.mpr hn, fun m h1 h2 => ?_⟩
        have : m = maxI ns := Int.le_antisymm (maxI_ge h1) (h2 _ (maxI_mem hn))
        rw [this]
        exact fin_flat fh q (.int _)
  · cases e
/-! ### order of data -/
def cmpOk (x y : PyData) : Bool := PySem.W.alike x y && !(x matches .none) && decide (min x.depth y.depth < 60)
def gGtD : List D → Option D
  | [x, y] => x.py.bind fun a => y.py.bind fun b => if cmpOk a b = true then some (.bl (PySem.W.dataLt b a)) else none
  | _ => none
def gLtD : List D → Option D
  | [x, y] => x.py.bind fun a => y.py.bind fun b => if cmpOk a b = true then some (.bl (PySem.W.dataLt a b)) else none
  | _ => none
def rCmpD (K : PySem.W.Frag) (f : PyData → PyData → Bool) : R2 := fun x y H Q => ∃ a b, Dp K H x a ∧ Dp K H y b ∧ cmpOk a b = true ∧ Q (.bl (f a b)) H
theorem cmpOk_out {x y : PyData} (h : cmpOk x y = true) : PySem.W.alike x y = true ∧ x ≠ .none ∧ min x.depth y.depth < 60 := by
  unfold cmpOk at h
  rw [Bool.and_eq_true, Bool.and_eq_true] at h
  exact ⟨h.1.1, fun z => by subst z; exact absurd h.1.2 (by decide), by simpa using h.2⟩
theorem op_gtD (hu : X.A.units + 64 < cLine) : OpR X (compareOp .Gt) (rCmpD X.K fun a b => PySem.W.dataLt b a) := by
  intro pins s σ H x y v u Q I rx ry ⟨a, b, ha, hb, hc, q⟩
  obtain ⟨as, r1⟩ := Dp.reads I a x v ha rx
  obtain ⟨bs, r2⟩ := Dp.reads I b y u hb ry
  obtain ⟨c1, c2, c3⟩ := cmpOk_out hc
  exact PySem.W.gt_data r1 r2 c1 c2 (by omega) ⟨.bl _, H, I, rfl, q⟩
theorem op_ltD (hu : X.A.units + 64 < cLine) : OpR X (compareOp .Lt) (rCmpD X.K fun a b => PySem.W.dataLt a b) := by
  intro pins s σ H x y v u Q I rx ry ⟨a, b, ha, hb, hc, q⟩
  obtain ⟨as, r1⟩ := Dp.reads I a x v ha rx
  obtain ⟨bs, r2⟩ := Dp.reads I b y u hb ry
  obtain ⟨c1, c2, c3⟩ := cmpOk_out hc
  exact PySem.W.lt_data r1 r2 c1 c2 (by omega) ⟨.bl _, H, I, rfl, q⟩
theorem psem_gtD : PSem G (r2L (rCmpD G.K fun a b => PySem.W.dataLt b a)) gGtD := fun F H vs ds d Q fh vw e q => by
  unfold gGtD at e
  split at e
  · rename_i x y
    cases e1 : x.py with
    | none => rw [e1] at e; cases e
    | some a =>
      cases e2 : y.py with
      | none => rw [e1, e2] at e; cases e
      | some b =>
        rw [e1, e2, Option.bind_some, Option.bind_some] at e
        split at e
        · rename_i hc
          cases e
          obtain ⟨v, w, rfl, h1, h2⟩ := vw.two
          exact ⟨v, w, rfl, a, b, h1.dp fh e1, h2.dp fh e2, hc, fin_flat fh q (.bl _)⟩
        · cases e
  · cases e
theorem psem_ltD : PSem G (r2L (rCmpD G.K fun a b => PySem.W.dataLt a b)) gLtD := fun F H vs ds d Q fh vw e q => by
  unfold gLtD at e
  split at e
  · rename_i x y
    cases e1 : x.py with
    | none => rw [e1] at e; cases e
    | some a =>
      cases e2 : y.py with
      | none => rw [e1, e2] at e; cases e
      | some b =>
        rw [e1, e2, Option.bind_some, Option.bind_some] at e
        split at e
        · rename_i hc
          cases e
          obtain ⟨v, w, rfl, h1, h2⟩ := vw.two
          exact ⟨v, w, rfl, a, b, h1.dp fh e1, h2.dp fh e2, hc, fin_flat fh q (.bl _)⟩
        · cases e
  · cases e
/-! ### a, b = [], [] -/
def sNew2 (i j : Nat) : SS := fun ρ => (gOwn i (.lst []) ρ).bind fun _ ρ2 => (gOwn j (.lst []) ρ2).bind fun _ ρ3 => .ok .nx ρ3
@[simp] theorem ev_new2 (i j : Nat) (ρ : Env) : sNew2 i j ρ = (gOwn i (.lst []) ρ).bind fun _ ρ2 => (gOwn j (.lst []) ρ2).bind fun _ ρ3 => .ok .nx ρ3 := rfl
theorem d_new2 {i j : Nat} {x y : Str} {p1 p2 px py pt : Pos} {kt k2 pt2} (hu : At X W) (hi : X.N[i]? = some x) (hj : X.N[j]? = some y) (hij : i ≠ j) (hx : X.env.scope.names.lookup x = some .local) (hy : X.env.scope.names.lookup y = some .local)
    (hw : swappedStores [.Tuple [.Name x px, .Name y py] kt pt] (.Tuple [.List [] p1, .List [] p2] k2 pt2) X.env = pure (some [x, y])) (hs : swapsWithSole [.Tuple [.Name x px, .Name y py] kt pt] (.Tuple [.List [] p1, .List [] p2] k2 pt2) pos.line X.env = pure false := by rfl) :
    DS (GK X ex) X W (.Assign [.Tuple [.Name x px, .Name y py] kt pt] (.Tuple [.List [] p1, .List [] p2] k2 pt2) pos) (sNew2 i j) :=
  wkS (ps_par hu.calm hu.nd hi hj hij hx hy (pa_cons (d_lstF (W := W) (ex := ex) d_nil) (pa_cons (d_lstF (W := W) (ex := ex) d_nil) pa_nil)) hw hs) fun D σ H ⟨ρ, F, Rv, io, rel, q⟩ => by
    rw [ev_new2] at q
    have l0 : sLst sNil ρ = .ok (.lst []) ρ := by rw [ev_lst, ev_nil, R.bind_ok]; exact if_pos (Nat.zero_le _)
    refine ⟨ρ, F, Rv, io, rel, ?_⟩
    rw [l0]
    intro p H1 F1 le1 rel1 ow lo
    obtain ⟨o, ho, oo⟩ := ow.at_
    refine ⟨ρ, F1, _, io, rel1.keep ho oo ow.nF lo, ?_⟩
    rw [l0]
    intro p' H2 F2 le2 rel2 ow' lo'
    obtain ⟨relD, n1, n2, lo2⟩ := rel2.resDrop ow.nR
    have ne : p' ≠ p := fun z => by have w := ow'.nR; rw [z, upd_same] at w; cases w
    have nR' : Rv p' = none := by have w := ow'.nR; rw [upd_ne ne] at w; exact w
    refine ⟨_, _, rfl, ?_⟩
    cases e1 : gOwn i (.lst []) ρ with
    | stuck => rw [e1] at q; exact q.elim
    | exc x ρ'' => unfold gOwn at e1; split at e1 <;> cases e1
    | ok u ρ2 =>
      rw [e1, R.bind_ok] at q
      obtain ⟨h1, rfl⟩ := gOwn_ok e1
      cases e2 : gOwn j (.lst []) (ρ.set i (.own (.lst []))) with
      | stuck => rw [e2] at q; exact q.elim
      | exc x ρ'' => unfold gOwn at e2; split at e2 <;> cases e2
      | ok u ρ3 =>
        rw [e2, R.bind_ok] at q
        obtain ⟨h2, rfl⟩ := gOwn_ok e2
        have r1 := relD.setOwn (i := i) (p := p) (d := .lst []) ⟨n1, ow.nR, o, n2, oo.mono le2⟩ lo2 h1
        refine q _ H2 F2 (le1.trans le2) (r1.setOwn ⟨ow'.nF, nR', ow'.at_⟩ (fun m c d e3 e4 e5 => ?_) h2)
        rw [List.getElem?_set] at e3 e5
        by_cases z : i = m
        · rw [if_pos z] at e5
          split at e5
          · cases e5; exact ne rfl
          · cases e5
        · rw [if_neg z] at e3 e5; exact lo' m c d e3 e4 e5
end
/-! ### while, however long it runs -/
open Classical in
noncomputable def sWhileT (t : ST) (s : SS) : SS := fun ρ => if h : ∃ n, sWhile t s n ρ ≠ .stuck then sWhile t s h.choose ρ else .stuck
theorem while_more {t : ST} {s : SS} : ∀ {n m : Nat} {ρ : Env}, sWhile t s n ρ ≠ .stuck → n ≤ m → sWhile t s m ρ = sWhile t s n ρ
  | 0, _, _, h, _ => absurd rfl h
  | n + 1, 0, _, _, hm => by omega
  | n + 1, m + 1, ρ, h, hm => by
    unfold sWhile at h ⊢
    cases e : t ρ with
    | stuck => rfl
    | exc x ρ1 => rfl
    | ok k ρ1 =>
      rw [e, R.bind_ok] at h
      rw [R.bind_ok, R.bind_ok]
      cases k with
      | false => rfl
      | true =>
        simp only at h ⊢
        cases e2 : s ρ1 with
        | stuck => rfl
        | exc x ρ2 => rfl
        | ok f ρ2 =>
          rw [e2, R.bind_ok] at h
          rw [R.bind_ok, R.bind_ok]
          cases f with
          | nx => exact while_more h (by omega)
          | ct => exact while_more h (by omega)
          | bk => rfl
          | rt d => rfl
theorem while_T {t : ST} {s : SS} {n : Nat} {ρ : Env} {r : R Fl} (h : sWhile t s n ρ = r) (hr : r ≠ .stuck) : sWhileT t s ρ = r := by
  have hx : ∃ n, sWhile t s n ρ ≠ .stuck := ⟨n, by rw [h]; exact hr⟩
  unfold sWhileT
  rw [dif_pos hx]
  have h1 := hx.choose_spec
  rcases Nat.le_total n hx.choose with z | z
  · rw [← h]; exact while_more (by rw [h]; exact hr) z
  · rw [← h]; exact (while_more h1 z).symm
theorem d_whileT {ex : String → Addr} {X : Cx} {W : WX} {c : Expr} {pos : Pos} {t : ST} {body : List Stmt} {s : SS} (hp : PassesOwn (model X.prog X.w) X.A X.env X.xe) (hc : DT (GK X ex) X W c t) (hb : DSs (GK X ex) X W body s) : DS (GK X ex) X W (.While c body [] pos) (sWhileT t s) :=
  ⟨fun pins s0 σ H D I ⟨ρ, F, Rv, io, rel, q⟩ => by
    unfold sWhileT at q
    by_cases hx : ∃ n, sWhile t s n ρ ≠ .stuck
    · rw [dif_pos hx] at q
      exact (d_while hx.choose hp hc hb).run pins s0 σ H D I ⟨ρ, F, Rv, io, rel, q⟩
    · rw [dif_neg hx] at q; exact q.elim⟩
end Dt

set_option Elab.async false
set_option linter.all false
set_option maxRecDepth 100000
set_option maxHeartbeats 4000000
namespace Lw
open PySem PySem.Spec PyProof.Rows L2 Dt
noncomputable section
def top (i : Nat) : Stmt := PySem.Challenge.pw_countersums_k08_whole_weights_judged.main.body.getD i (.Pass ⟨0, 0, 0, 0⟩)
abbrev st_L_draw : Stmt := top 24
theorem sc_L_draw : FnScope ["_law_tape", "_law_many", "_law_prime", "_law_found", "_law_cell"] ["_law_tape", "_law_many"] (defScope st_L_draw) := ⟨rfl, rfl, rfl, by decide +kernel, rfl, by decide +kernel, by decide +kernel⟩
def u0_L_draw : SS := (sSeq (sAsg (gSet 4) (sOps gMod (b2 (sVal (sOps gInt (bCons (sVal (sOps gAdd (b2 (sLoc 4) (sVal (sOps gMul (b2 (sVal (sCst (.int 1000003))) (sVal (sOps gIdx (b2 (sLoc 0) (sVal (sCst (.int 1)))))))))))) bNil))) (sLoc 2))))
  (sSeq (sAsg (gSet 4) (sOps gMod (b2 (sVal (sOps gInt (bCons (sVal (sOps gAdd (b2 (sVal (sOps gAdd (b2 (sVal (sOps gMul (b2 (sLoc 4) (sLoc 4)))) (sVal (sOps gMul (b2 (sVal (sCst (.int 1181783497276652981))) (sLoc 4))))))) (sVal (sCst (.int 2049848353892358983)))))) bNil))) (sLoc 2))))
  (sAsg (gSet 4) (sOps gMod (b2 (sVal (sOps gInt (bCons (sVal (sOps gAdd (b2 (sVal (sOps gMul (b2 (sLoc 4) (sLoc 4)))) (sVal (sCst (.int 1442695040888963407)))))) bNil))) (sLoc 2))))))
def u1_L_draw : SS := (sSeq (sAsg (gSet 4) (sCst (.int 0)))
  (sSeq (sIfS (sTst (sOps gGt (b2 (sVal (sOps gLen (bCons (sVal (sOps gIdx (b2 (sLoc 0) (sVal (sCst (.int 0)))))) bNil))) (sVal (sCst (.int 0)))))) (sAsg (gSet 4) (sOps gIdx (b2 (sVal (sOps gIdx (b2 (sLoc 0) (sVal (sCst (.int 0)))))) (sVal (sOps gMod (b2 (sVal (sOps gInt (bCons (sVal (sOps gIdx (b2 (sLoc 0) (sVal (sCst (.int 1)))))) bNil))) (sVal (sOps gLen (bCons (sVal (sOps gIdx (b2 (sLoc 0) (sVal (sCst (.int 0)))))) bNil))))))))) sNx)
  (sSeq (sIfS (tOrS (sTst (sOps gGe (b2 (sVal (sOps gIdx (b2 (sLoc 0) (sVal (sCst (.int 1)))))) (sVal (sOps gLen (bCons (sVal (sOps gIdx (b2 (sLoc 0) (sVal (sCst (.int 0)))))) bNil)))))) (sTst (sOps gLt (b2 (sLoc 4) (sVal (sOps gPow (b2 (sVal (sCst (.int 10))) (sVal (sCst (.int 18)))))))))) u0_L_draw sNx)
  (sSeq (sAsg (gPut 0 (sVal (sCst (.int 1)))) (sOps gAdd (b2 (sVal (sOps gIdx (b2 (sLoc 0) (sVal (sCst (.int 1)))))) (sVal (sCst (.int 1))))))
  (sAsg (gPut 0 (sVal (sCst (.int 2)))) (sVar 4))))))
def b_L_draw : SS := (sSeq (sAsg (gSet 2) (sCst (.int 2305843009213693951)))
  (sSeq (sIfS (sTst (sOps gLt (b2 (sVal (sOps gIdx (b2 (sLoc 0) (sVal (sCst (.int 2)))))) (sLoc 1)))) u1_L_draw sNx)
  (sSeq (sAsg (gSet 3) (sOps gMod (b2 (sVal (sOps gInt (bCons (sVal (sOps gIdx (b2 (sLoc 0) (sVal (sCst (.int 2)))))) bNil))) (sLoc 1))))
  (sSeq (sAsg (gPut 0 (sVal (sCst (.int 2)))) (sOps gDiv (b2 (sVal (sOps gIdx (b2 (sLoc 0) (sVal (sCst (.int 2)))))) (sLoc 1))))
  (sRet (sVar 3))))))
def m_L_draw : List D → FR := runI 5 2 b_L_draw
abbrev st_L_near : Stmt := top 30
theorem sc_L_near : FnScope ["_law_tape", "_law_wide"] ["_law_tape", "_law_wide"] (defScope st_L_near) := ⟨rfl, rfl, rfl, by decide +kernel, rfl, by decide +kernel, by decide +kernel⟩
def b_L_near : SS := (sRet (sOps gSub (b2 (sVal (sCallI 0 2 (m_L_draw) (sCons (sOps gAdd (b2 (sVal (sOps gMul (b2 (sVal (sCst (.int 2))) (sLoc 1)))) (sVal (sCst (.int 1))))) sNil))) (sLoc 1))))
def m_L_near : List D → FR := runI 2 2 b_L_near
abbrev st_L_system : Stmt := top 31
theorem sc_L_system : FnScope ["_law_tape", "_law_many", "_law_limit", "_law_wide", "_law_found", "_law_part", "_law_form", "_law_place"] ["_law_tape", "_law_many", "_law_limit", "_law_wide"] (defScope st_L_system) := ⟨rfl, rfl, rfl, by decide +kernel, rfl, by decide +kernel, by decide +kernel⟩
def c0_L_system : SE := sComp [7] (iRng1' (sCons (sVar 1) sNil)) (gSet 7) tT1 (sCallI 0 2 (m_L_near) (sCons (sVar 3) sNil))
def t0_L_system : SS := (sSeq (sAsg (gSet 6) (sOps gTuple (bCons (sVal c0_L_system) bNil)))
  (sAsg (gSet 4) (sOps gAdd (b2 (sLoc 4) (sVal (sTup (sCons (sTup (sCons (sOps gEq (b2 (sVal (sCallI 0 2 (m_L_draw) (sCons (sCst (.int 2)) sNil))) (sVal (sCst (.int 0))))) (sCons (sVar 6) sNil))) sNil)))))))
def l0_L_system : SS := sFor (iRng1' (sCons (sOps gAdd (b2 (sVal (sCst (.int 1))) (sVal (sCallI 0 2 (m_L_draw) (sCons (sVar 2) sNil))))) sNil)) (gSet 5) t0_L_system
def b_L_system : SS := (sSeq (sAsg (gSet 4) (sTup sNil))
  (sSeq l0_L_system
  (sRet (sVar 4))))
def m_L_system : List D → FR := runI 8 4 b_L_system
abbrev st_L_of : Stmt := top 29
theorem sc_L_of : FnScope ["_law_tape", "_law_some"] ["_law_tape", "_law_some"] (defScope st_L_of) := ⟨rfl, rfl, rfl, by decide +kernel, rfl, by decide +kernel, by decide +kernel⟩
def b_L_of : SS := (sRet (sOps gIdx (b2 (sLoc 1) (sVal (sCallI 0 2 (m_L_draw) (sCons (sOps gLen (bCons (sLoc 1) bNil)) sNil))))))
def m_L_of : List D → FR := runI 2 2 b_L_of
abbrev st_is_integer : Stmt := top 4
theorem sc_is_integer : FnScope ["thing"] ["thing"] (defScope st_is_integer) := ⟨rfl, rfl, rfl, by decide +kernel, rfl, by decide +kernel, by decide +kernel⟩
def b_is_integer : SS := (sRet (sAnd (sIsi ["int"] (sLoc 0)) (sNot (sVal (sIsi ["bool"] (sLoc 0))))))
def m_is_integer : List D → FR := runP 1 1 b_is_integer
abbrev st_is_row : Stmt := top 8
theorem sc_is_row : FnScope ["thing", "many", "part"] ["thing", "many"] (defScope st_is_row) := ⟨rfl, rfl, rfl, by decide +kernel, rfl, by decide +kernel, by decide +kernel⟩
def c0_is_row : SE := sComp [2] (iAny (sOps gIdx (b2 (sLoc 0) (sVal (sCst (.int 1)))))) (gSet 2) tT1 (sCallP 1 (m_is_integer) (sCons (sVar 2) sNil))
def b_is_row : SS := (sSeq (sIfS (tOrS (tNotS (sTru (sVal (sIsi ["tuple"] (sLoc 0))))) (tOrS (sTst (sOps gNe (b2 (sVal (sOps gLen (bCons (sLoc 0) bNil))) (sVal (sCst (.int 2)))))) (tNotS (sTru (sVal (sIsi ["bool"] (sVal (sOps gIdx (b2 (sLoc 0) (sVal (sCst (.int 0)))))))))))) (sRet (sCst (.bl false))) sNx)
  (sSeq (sIfS (tOrS (tNotS (sTru (sVal (sIsi ["tuple"] (sVal (sOps gIdx (b2 (sLoc 0) (sVal (sCst (.int 1)))))))))) (sTst (sOps gNe (b2 (sVal (sOps gLen (bCons (sVal (sOps gIdx (b2 (sLoc 0) (sVal (sCst (.int 1)))))) bNil))) (sLoc 1))))) (sRet (sCst (.bl false))) sNx)
  (sRet (sOps gAll (bCons (sVal c0_is_row) bNil)))))
def m_is_row : List D → FR := runP 3 2 b_is_row
abbrev st_is_system : Stmt := top 9
theorem sc_is_system : FnScope ["thing", "first", "many", "part"] ["thing"] (defScope st_is_system) := ⟨rfl, rfl, rfl, by decide +kernel, rfl, by decide +kernel, by decide +kernel⟩
def c0_is_system : SE := sComp [3] (iAny (sVar 0)) (gSet 3) tT1 (sCallP 2 (m_is_row) (sCons (sVar 3) (sCons (sVar 2) sNil)))
def b_is_system : SS := (sSeq (sIfS (tOrS (tNotS (sTru (sVal (sIsi ["tuple"] (sLoc 0))))) (tNotS (sTst (sChain gLe gLe (sVal (sCst (.int 1))) (sVal (sOps gLen (bCons (sLoc 0) bNil))) (sVal (sCst (.int 24))))))) (sRet (sCst (.bl false))) sNx)
  (sSeq (sAsg (gSet 1) (sOps gIdx (b2 (sLoc 0) (sVal (sCst (.int 0))))))
  (sSeq (sIfS (tOrS (tNotS (sTru (sVal (sIsi ["tuple"] (sLoc 1))))) (tOrS (sTst (sOps gNe (b2 (sVal (sOps gLen (bCons (sLoc 1) bNil))) (sVal (sCst (.int 2)))))) (tNotS (sTru (sVal (sIsi ["tuple"] (sVal (sOps gIdx (b2 (sLoc 1) (sVal (sCst (.int 1)))))))))))) (sRet (sCst (.bl false))) sNx)
  (sSeq (sAsg (gSet 2) (sOps gLen (bCons (sVal (sOps gIdx (b2 (sLoc 1) (sVal (sCst (.int 1)))))) bNil)))
  (sRet (sAnd (sChain gLe gLe (sVal (sCst (.int 1))) (sLoc 2) (sVal (sCst (.int 4)))) (sOps gAll (bCons (sVal c0_is_system) bNil))))))))
def m_is_system : List D → FR := runP 4 1 b_is_system
abbrev st_looked : Stmt := top 10
theorem sc_looked : FnScope ["system"] ["system"] (defScope st_looked) := ⟨rfl, rfl, rfl, by decide +kernel, rfl, by decide +kernel, by decide +kernel⟩
def b_looked : SS := (sIfS (tNotS (sTru (sVal (sCallP 1 (m_is_system) (sCons (sVar 0) sNil))))) sNever sNx)
def m_looked : List D → FR := runP 1 1 b_looked
abbrev st_divisor_of : Stmt := top 11
theorem sc_divisor_of : FnScope ["numbers", "found", "number", "one", "other"] ["numbers"] (defScope st_divisor_of) := ⟨rfl, rfl, rfl, by decide +kernel, rfl, by decide +kernel, by decide +kernel⟩
def t0_divisor_of : SS := (sPar 3 4 (sCons (sOps gMod (b2 (sLoc 4) (sLoc 3))) (sCons (sVar 3) sNil)))
def w0_divisor_of : SS := sWhileT (sTst (sOps gGt (b2 (sLoc 3) (sVal (sCst (.int 0)))))) t0_divisor_of
def t1_divisor_of : SS := (sSeq (sPar 3 4 (sCons (sOps gAbs (bCons (sLoc 2) bNil)) (sCons (sVar 1) sNil)))
  (sSeq w0_divisor_of
  (sAsg (gSet 1) (sVar 4))))
def l0_divisor_of : SS := sFor (iAny (sVar 0)) (gSet 2) t1_divisor_of
def b_divisor_of : SS := (sSeq (sAsg (gSet 1) (sCst (.int 0)))
  (sSeq l0_divisor_of
  (sRet (sVar 1))))
def m_divisor_of : List D → FR := runP 5 1 b_divisor_of
abbrev st_lean : Stmt := top 13
theorem sc_lean : FnScope ["rows", "found", "strict", "form", "weights", "divisor", "size", "key", "part"] ["rows"] (defScope st_lean) := ⟨rfl, rfl, rfl, by decide +kernel, rfl, by decide +kernel, by decide +kernel⟩
def c0_lean : SE := sComp [8] (iAny (sVar 3)) (gSet 8) tT1 (sOps gDiv (b2 (sLoc 8) (sLoc 5)))
def c1_lean : SE := sComp [8] (iAny (sVar 4)) (gSet 8) tT1 (sOps gDiv (b2 (sLoc 8) (sLoc 5)))
def c2_lean : SE := sComp [8] (iAny (sVar 3)) (gSet 8) tT1 (sOps gDiv (b2 (sLoc 8) (sLoc 6)))
def t0_lean : SS := (sSeq (sAsg (gSet 5) (sOps gMax2 (bCons (sVal (sCst (.int 1))) (bCons (sVal (sCallP 1 (m_divisor_of) (sCons (sOps gAdd (b2 (sLoc 3) (sLoc 4))) sNil))) bNil))))
  (sSeq (sAsg (gSet 3) (sOps gTuple (bCons (sVal c0_lean) bNil)))
  (sSeq (sAsg (gSet 4) (sOps gTuple (bCons (sVal c1_lean) bNil)))
  (sSeq (sAsg (gSet 6) (sCallP 1 (m_divisor_of) (sCons (sVar 3) sNil)))
  (sSeq (sAsg (gSet 7) (sIf (sTst (sOps gGt (b2 (sLoc 6) (sVal (sCst (.int 0)))))) (sOps gTuple (bCons (sVal c2_lean) bNil)) (sTup (sCons (sVar 3) (sCons (sVar 2) sNil)))))
  (sIfS (tOrS (sTst (sOps gNotInN (b2 (sLoc 7) (sLoc 1)))) (tAndS (sTru (sLoc 2)) (tNotS (sTru (sVal (sOps gIdx (b2 (sVal (sOps gIdxN (b2 (sLoc 1) (sLoc 7)))) (sVal (sCst (.int 0)))))))))) (sAsg (gPutN 1 (sLoc 7)) (sTup (sCons (sVar 2) (sCons (sVar 3) (sCons (sVar 4) sNil))))) sNx))))))
def l0_lean : SS := sFor (iAny (sVar 0)) (gTup' 3 (gC (gSet 2) (gC (gSet 3) (gC (gSet 4) gN)))) t0_lean
def c3_lean : SE := sComp [7] (iNd (sVar 1)) (gSet 7) tT1 (sOps gIdxN (b2 (sLoc 1) (sLoc 7)))
def b_lean : SS := (sSeq (sAsg (gOwn 1) (sCst (.nd [] [])))
  (sSeq l0_lean
  (sRet c3_lean)))
def m_lean : List D → FR := runP 9 1 b_lean
abbrev st_summed : Stmt := top 15
theorem sc_summed : FnScope ["low", "high", "more", "times", "form", "weights", "one", "other"] ["low", "high", "more", "times"] (defScope st_summed) := ⟨rfl, rfl, rfl, by decide +kernel, rfl, by decide +kernel, by decide +kernel⟩
def c0_summed : SE := sComp [6, 7] (iZipX (sCons (sOps gIdx (b2 (sLoc 0) (sVal (sCst (.int 1))))) (sCons (sOps gIdx (b2 (sLoc 1) (sVal (sCst (.int 1))))) sNil))) (gTup' 2 (gC (gSet 6) (gC (gSet 7) gN))) tT1 (sOps gAdd (b2 (sVal (sOps gMul (b2 (sLoc 2) (sLoc 6)))) (sVal (sOps gMul (b2 (sLoc 3) (sLoc 7))))))
def c1_summed : SE := sComp [6, 7] (iZipX (sCons (sOps gIdx (b2 (sLoc 0) (sVal (sCst (.int 2))))) (sCons (sOps gIdx (b2 (sLoc 1) (sVal (sCst (.int 2))))) sNil))) (gTup' 2 (gC (gSet 6) (gC (gSet 7) gN))) tT1 (sOps gAdd (b2 (sVal (sOps gMul (b2 (sLoc 2) (sLoc 6)))) (sVal (sOps gMul (b2 (sLoc 3) (sLoc 7))))))
def b_summed : SS := (sSeq (sAsg (gSet 4) (sOps gTuple (bCons (sVal c0_summed) bNil)))
  (sSeq (sAsg (gSet 5) (sOps gTuple (bCons (sVal c1_summed) bNil)))
  (sRet (sTup (sCons (sOr (sOps gIdx (b2 (sLoc 0) (sVal (sCst (.int 0))))) (sOps gIdx (b2 (sLoc 1) (sVal (sCst (.int 0)))))) (sCons (sVar 4) (sCons (sVar 5) sNil)))))))
def m_summed : List D → FR := runP 8 4 b_summed
abbrev st_without : Stmt := top 14
theorem sc_without : FnScope ["rows", "place", "found", "lows", "highs", "low", "high", "row"] ["rows", "place"] (defScope st_without) := ⟨rfl, rfl, rfl, by decide +kernel, rfl, by decide +kernel, by decide +kernel⟩
def c0_without : SE := sComp [7] (iAny (sVar 0)) (gSet 7) (sTst (sOps gEq (b2 (sVal (sOps gIdx (b2 (sVal (sOps gIdx (b2 (sLoc 7) (sVal (sCst (.int 1)))))) (sLoc 1)))) (sVal (sCst (.int 0)))))) (sVar 7)
def c1_without : SE := sComp [7] (iAny (sVar 0)) (gSet 7) (sTst (sOps gGt (b2 (sVal (sOps gIdx (b2 (sVal (sOps gIdx (b2 (sLoc 7) (sVal (sCst (.int 1)))))) (sLoc 1)))) (sVal (sCst (.int 0)))))) (sVar 7)
def c2_without : SE := sComp [7] (iAny (sVar 0)) (gSet 7) (sTst (sOps gLt (b2 (sVal (sOps gIdx (b2 (sVal (sOps gIdx (b2 (sLoc 7) (sVal (sCst (.int 1)))))) (sLoc 1)))) (sVal (sCst (.int 0)))))) (sVar 7)
def t0_without : SS := (sExpr (sMut 2 mAppend (sCons (sCallP 4 (m_summed) (sCons (sVar 5) (sCons (sVar 6) (sCons (sOps gNeg (b1 (sVal (sOps gIdx (b2 (sVal (sOps gIdx (b2 (sLoc 6) (sVal (sCst (.int 1)))))) (sLoc 1)))))) (sCons (sOps gIdx (b2 (sVal (sOps gIdx (b2 (sLoc 5) (sVal (sCst (.int 1)))))) (sLoc 1))) sNil))))) sNil)))
def l0_without : SS := sFor (iAny (sVar 4)) (gSet 6) t0_without
def t1_without : SS := l0_without
def l1_without : SS := sFor (iAny (sVar 3)) (gSet 5) t1_without
def b_without : SS := (sSeq (sAsg (gOwn 2) c0_without)
  (sSeq (sAsg (gOwn 3) c1_without)
  (sSeq (sAsg (gOwn 4) c2_without)
  (sSeq l1_without
  (sRet (sCallP 1 (m_lean) (sCons (sVar 2) sNil)))))))
def m_without : List D → FR := runP 8 2 b_without
abbrev st_stages : Stmt := top 16
theorem sc_stages : FnScope ["system", "weighed", "many", "rows", "found", "place", "at", "weights", "strict", "form"] ["system", "weighed"] (defScope st_stages) := ⟨rfl, rfl, rfl, by decide +kernel, rfl, by decide +kernel, by decide +kernel⟩
def c0_stages : SE := sComp [5] (iRng1' (sCons (sOps gLen (bCons (sLoc 0) bNil)) sNil)) (gSet 5) tT1 (sIf (sTst (sOps gEq (b2 (sLoc 5) (sLoc 6)))) (sCst (.int 1)) (sCst (.int 0)))
def t0_stages : SS := (sSeq (sAsg (gSet 7) (sOps gTuple (bCons (sVal c0_stages) bNil)))
  (sExpr (sMut 3 mAppend (sCons (sTup (sCons (sVar 8) (sCons (sVar 9) (sCons (sIf (sTru (sLoc 1)) (sVar 7) (sTup sNil)) sNil)))) sNil))))
def l0_stages : SS := sFor (iEnumX (sCons (sVar 0) sNil)) (gTup' 2 (gC (gSet 6) (gC (gTup' 2 (gC (gSet 8) (gC (gSet 9) gN))) gN))) t0_stages
def t1_stages : SS := (sExpr (sMut 4 mAppend (sCons (sCallP 2 (m_without) (sCons (sOps gIdx (b2 (sLoc 4) (sVal (sOps gNeg (b1 (sVal (sCst (.int 1)))))))) (sCons (sVar 5) sNil))) sNil)))
def l1_stages : SS := sFor (iRng3' (sCons (sOps gSub (b2 (sLoc 2) (sVal (sCst (.int 1))))) (sCons (sOps gNeg (b1 (sVal (sCst (.int 1))))) (sCons (sOps gNeg (b1 (sVal (sCst (.int 1))))) sNil)))) (gSet 5) t1_stages
def b_stages : SS := (sSeq (sAsg (gSet 2) (sOps gLen (bCons (sVal (sOps gIdx (b2 (sVal (sOps gIdx (b2 (sLoc 0) (sVal (sCst (.int 0)))))) (sVal (sCst (.int 1)))))) bNil)))
  (sSeq (sAsg (gOwn 3) (sLst sNil))
  (sSeq l0_stages
  (sSeq (sAsg (gOwn 4) (sLst (sCons (sCallP 1 (m_lean) (sCons (sVar 3) sNil)) sNil)))
  (sSeq l1_stages
  (sRet (sVar 4)))))))
def m_stages : List D → FR := runP 10 2 b_stages
abbrev st_barred : Stmt := top 17
theorem sc_barred : FnScope ["rows", "strict", "form", "weights"] ["rows"] (defScope st_barred) := ⟨rfl, rfl, rfl, by decide +kernel, rfl, by decide +kernel, by decide +kernel⟩
def t0_barred : SS := (sIfS (sTru (sLoc 1)) (sRet (sVar 3)) sNx)
def l0_barred : SS := sFor (iAny (sVar 0)) (gTup' 3 (gC (gSet 1) (gC (gSet 2) (gC (gSet 3) gN)))) t0_barred
def b_barred : SS := (sSeq l0_barred
  (sRet (sCst .non)))
def m_barred : List D → FR := runP 4 1 b_barred
abbrev st_nearest : Stmt := top 18
theorem sc_nearest : FnScope ["lows", "highs", "low", "high", "top", "bottom", "strict"] ["lows", "highs"] (defScope st_nearest) := ⟨rfl, rfl, rfl, by decide +kernel, rfl, by decide +kernel, by decide +kernel⟩
def t0_nearest : SS := (sIfS (tOrS (sTst (sOps gIs (b2 (sLoc 2) (sVal (sCst .non))))) (sTst (sOps gGtD (b2 (sVal (sTup (sCons (sOps gMul (b2 (sLoc 4) (sVal (sOps gIdx (b2 (sLoc 2) (sVal (sCst (.int 1)))))))) (sCons (sVar 6) sNil)))) (sVal (sTup (sCons (sOps gMul (b2 (sVal (sOps gIdx (b2 (sLoc 2) (sVal (sCst (.int 0)))))) (sLoc 5))) (sCons (sOps gIdx (b2 (sLoc 2) (sVal (sCst (.int 2))))) sNil)))))))) (sAsg (gSet 2) (sTup (sCons (sVar 4) (sCons (sVar 5) (sCons (sVar 6) sNil))))) sNx)
def l0_nearest : SS := sFor (iAny (sVar 0)) (gTup' 3 (gC (gSet 4) (gC (gSet 5) (gC (gSet 6) gN)))) t0_nearest
def t1_nearest : SS := (sIfS (tOrS (sTst (sOps gIs (b2 (sLoc 3) (sVal (sCst .non))))) (sTst (sOps gLtD (b2 (sVal (sTup (sCons (sOps gMul (b2 (sLoc 4) (sVal (sOps gIdx (b2 (sLoc 3) (sVal (sCst (.int 1)))))))) (sCons (sNot (sLoc 6)) sNil)))) (sVal (sTup (sCons (sOps gMul (b2 (sVal (sOps gIdx (b2 (sLoc 3) (sVal (sCst (.int 0)))))) (sLoc 5))) (sCons (sNot (sVal (sOps gIdx (b2 (sLoc 3) (sVal (sCst (.int 2))))))) sNil)))))))) (sAsg (gSet 3) (sTup (sCons (sVar 4) (sCons (sVar 5) (sCons (sVar 6) sNil))))) sNx)
def l1_nearest : SS := sFor (iAny (sVar 1)) (gTup' 3 (gC (gSet 4) (gC (gSet 5) (gC (gSet 6) gN)))) t1_nearest
def b_nearest : SS := (sSeq (sAsg (gTup' 2 (gC (gSet 2) (gC (gSet 3) gN))) (sTup (sCons (sCst .non) (sCons (sCst .non) sNil))))
  (sSeq l0_nearest
  (sSeq l1_nearest
  (sSeq (sIfS (tAndS (sTst (sOps gIs (b2 (sLoc 2) (sVal (sCst .non))))) (sTst (sOps gIs (b2 (sLoc 3) (sVal (sCst .non)))))) (sRet (sTup (sCons (sCst (.int 0)) (sCons (sCst (.int 1)) sNil)))) sNx)
  (sSeq (sIfS (sTst (sOps gIs (b2 (sLoc 3) (sVal (sCst .non))))) (sRet (sTup (sCons (sOps gAdd (b2 (sVal (sOps gIdx (b2 (sLoc 2) (sVal (sCst (.int 0)))))) (sVal (sIf (sTru (sVal (sOps gIdx (b2 (sLoc 2) (sVal (sCst (.int 2))))))) (sOps gIdx (b2 (sLoc 2) (sVal (sCst (.int 1))))) (sCst (.int 0)))))) (sCons (sOps gIdx (b2 (sLoc 2) (sVal (sCst (.int 1))))) sNil)))) sNx)
  (sSeq (sIfS (sTst (sOps gIs (b2 (sLoc 2) (sVal (sCst .non))))) (sRet (sTup (sCons (sOps gSub (b2 (sVal (sOps gIdx (b2 (sLoc 3) (sVal (sCst (.int 0)))))) (sVal (sIf (sTru (sVal (sOps gIdx (b2 (sLoc 3) (sVal (sCst (.int 2))))))) (sOps gIdx (b2 (sLoc 3) (sVal (sCst (.int 1))))) (sCst (.int 0)))))) (sCons (sOps gIdx (b2 (sLoc 3) (sVal (sCst (.int 1))))) sNil)))) sNx)
  (sSeq (sIfS (tNotS (sTru (sVal (sOps gIdx (b2 (sLoc 2) (sVal (sCst (.int 2)))))))) (sRet (sTup (sCons (sOps gIdx (b2 (sLoc 2) (sVal (sCst (.int 0))))) (sCons (sOps gIdx (b2 (sLoc 2) (sVal (sCst (.int 1))))) sNil)))) sNx)
  (sRet (sIf (sTst (sOps gEq (b2 (sVal (sOps gMul (b2 (sVal (sOps gIdx (b2 (sLoc 2) (sVal (sCst (.int 0)))))) (sVal (sOps gIdx (b2 (sLoc 3) (sVal (sCst (.int 1))))))))) (sVal (sOps gMul (b2 (sVal (sOps gIdx (b2 (sLoc 3) (sVal (sCst (.int 0)))))) (sVal (sOps gIdx (b2 (sLoc 2) (sVal (sCst (.int 1)))))))))))) (sTup (sCons (sOps gIdx (b2 (sLoc 2) (sVal (sCst (.int 0))))) (sCons (sOps gIdx (b2 (sLoc 2) (sVal (sCst (.int 1))))) sNil))) (sTup (sCons (sOps gAdd (b2 (sVal (sOps gMul (b2 (sVal (sOps gIdx (b2 (sLoc 2) (sVal (sCst (.int 0)))))) (sVal (sOps gIdx (b2 (sLoc 3) (sVal (sCst (.int 1))))))))) (sVal (sOps gMul (b2 (sVal (sOps gIdx (b2 (sLoc 3) (sVal (sCst (.int 0)))))) (sVal (sOps gIdx (b2 (sLoc 2) (sVal (sCst (.int 1))))))))))) (sCons (sOps gMul (b2 (sVal (sOps gMul (b2 (sVal (sCst (.int 2))) (sVal (sOps gIdx (b2 (sLoc 2) (sVal (sCst (.int 1))))))))) (sVal (sOps gIdx (b2 (sLoc 3) (sVal (sCst (.int 1)))))))) sNil))))))))))))
def m_nearest : List D → FR := runP 7 2 b_nearest
abbrev st_value_of : Stmt := top 12
theorem sc_value_of : FnScope ["form", "numbers", "factor", "number"] ["form", "numbers"] (defScope st_value_of) := ⟨rfl, rfl, rfl, by decide +kernel, rfl, by decide +kernel, by decide +kernel⟩
def c0_value_of : SE := sComp [2, 3] (iZipX (sCons (sVar 0) (sCons (sVar 1) sNil))) (gTup' 2 (gC (gSet 2) (gC (gSet 3) gN))) tT1 (sOps gMul (b2 (sLoc 2) (sLoc 3)))
def b_value_of : SS := (sRet (sOps gSum (bCons (sVal c0_value_of) bNil)))
def m_value_of : List D → FR := runP 4 2 b_value_of
abbrev st_found_in : Stmt := top 19
theorem sc_found_in : FnScope ["system", "weighed", "steps", "weights", "many", "numbers", "place", "divisor", "lows", "highs", "strict", "form", "row_weights", "rest", "top", "bottom", "number"] ["system", "weighed"] (defScope st_found_in) := ⟨rfl, rfl, rfl, by decide +kernel, rfl, by decide +kernel, by decide +kernel⟩
def i0_found_in : SS := sIfS (sTst (sOps gGt (b2 (sVal (sOps gIdx (b2 (sLoc 11) (sLoc 6)))) (sVal (sCst (.int 0)))))) (sExpr (sMut 8 mAppend (sCons (sTup (sCons (sOps gNeg (b1 (sLoc 13))) (sCons (sOps gIdx (b2 (sLoc 11) (sLoc 6))) (sCons (sVar 10) sNil)))) sNil))) (sIfS (sTst (sOps gLt (b2 (sVal (sOps gIdx (b2 (sLoc 11) (sLoc 6)))) (sVal (sCst (.int 0)))))) (sExpr (sMut 9 mAppend (sCons (sTup (sCons (sVar 13) (sCons (sOps gNeg (b1 (sVal (sOps gIdx (b2 (sLoc 11) (sLoc 6)))))) (sCons (sVar 10) sNil)))) sNil))) sNx)
def t0_found_in : SS := (sSeq (sAsg (gSet 13) (sCallP 2 (m_value_of) (sCons (sSlice (sLoc 11) sPn (sPe (sVar 6))) (sCons (sVar 5) sNil))))
  i0_found_in)
def l0_found_in : SS := sFor (iAny (sOps gIdx (b2 (sLoc 2) (sVal (sOps gSub (b2 (sVal (sOps gSub (b2 (sLoc 4) (sVal (sCst (.int 1)))))) (sLoc 6))))))) (gTup' 3 (gC (gSet 10) (gC (gSet 11) (gC (gSet 12) gN)))) t0_found_in
def c0_found_in : SE := sComp [16] (iAny (sVar 5)) (gSet 16) tT1 (sOps gMul (b2 (sLoc 15) (sLoc 16)))
def t1_found_in : SS := (sSeq (sNew2 8 9)
  (sSeq l0_found_in
  (sSeq (sAsg (gTup' 2 (gC (gSet 14) (gC (gSet 15) gN))) (sCallP 2 (m_nearest) (sCons (sVar 8) (sCons (sVar 9) sNil))))
  (sSeq (sAsg (gSet 7) (sOps gMax2 (bCons (sVal (sCst (.int 1))) (bCons (sVal (sCallP 1 (m_divisor_of) (sCons (sLst (sCons (sVar 14) (sCons (sVar 15) sNil))) sNil))) bNil))))
  (sSeq (sAsg (gTup' 2 (gC (gSet 14) (gC (gSet 15) gN))) (sTup (sCons (sOps gDiv (b2 (sLoc 14) (sLoc 7))) (sCons (sOps gDiv (b2 (sLoc 15) (sLoc 7))) sNil))))
  (sAsg (gSet 5) (sOps gAdd (b2 (sVal c0_found_in) (sVal (sLst (sCons (sVar 14) sNil)))))))))))
def l1_found_in : SS := sFor (iRng1' (sCons (sVar 4) sNil)) (gSet 6) t1_found_in
def b_found_in : SS := (sSeq (sAsg (gSet 2) (sCallP 2 (m_stages) (sCons (sVar 0) (sCons (sVar 1) sNil))))
  (sSeq (sAsg (gSet 3) (sCallP 1 (m_barred) (sCons (sOps gIdx (b2 (sLoc 2) (sVal (sOps gNeg (b1 (sVal (sCst (.int 1)))))))) sNil)))
  (sSeq (sIfS (sTst (sOps gIsNot (b2 (sLoc 3) (sVal (sCst .non))))) (sRet (sTup (sCons (sCst .non) (sCons (sVar 3) sNil)))) sNx)
  (sSeq (sAsg (gSet 4) (sOps gLen (bCons (sVal (sOps gIdx (b2 (sVal (sOps gIdx (b2 (sLoc 0) (sVal (sCst (.int 0)))))) (sVal (sCst (.int 1)))))) bNil)))
  (sSeq (sAsg (gOwn 5) (sLst sNil))
  (sSeq l1_found_in
  (sRet (sTup (sCons (sOps gTuple (bCons (sLoc 5) bNil)) (sCons (sCst .non) sNil))))))))))
def m_found_in : List D → FR := runP 17 2 b_found_in
abbrev st_weights_for : Stmt := top 20
theorem sc_weights_for : FnScope ["system"] ["system"] (defScope st_weights_for) := ⟨rfl, rfl, rfl, by decide +kernel, rfl, by decide +kernel, by decide +kernel⟩
def b_weights_for : SS := (sSeq (sExpr (sCallP 1 (m_looked) (sCons (sVar 0) sNil)))
  (sRet (sOps gIdx (b2 (sVal (sCallP 2 (m_found_in) (sCons (sVar 0) (sCons (sCst (.bl true)) sNil)))) (sVal (sCst (.int 1)))))))
def m_weights_for : List D → FR := runP 1 1 b_weights_for
abbrev st_bars : Stmt := top 22
theorem sc_bars : FnScope ["system", "thing", "place", "part", "strict", "form"] ["system", "thing"] (defScope st_bars) := ⟨rfl, rfl, rfl, by decide +kernel, rfl, by decide +kernel, by decide +kernel⟩
def c0_bars : SE := sComp [3] (iAny (sVar 1)) (gSet 3) tT1 (sAnd (sCallP 1 (m_is_integer) (sCons (sVar 3) sNil)) (sOps gGe (b2 (sLoc 3) (sVal (sCst (.int 0))))))
def c1_bars : SE := sComp [3, 4, 5] (iZipX (sCons (sVar 0) (sCons (sVar 1) sNil))) (gTup' 2 (gC (gTup' 2 (gC (gSet 4) (gC (gSet 5) gN))) (gC (gSet 3) gN))) tT1 (sAnd (sVar 4) (sOps gGt (b2 (sLoc 3) (sVal (sCst (.int 0))))))
def c2_bars : SE := sComp [3, 4, 5] (iZipX (sCons (sVar 0) (sCons (sVar 1) sNil))) (gTup' 2 (gC (gTup' 2 (gC (gSet 4) (gC (gSet 5) gN))) (gC (gSet 3) gN))) tT1 (sOps gMul (b2 (sLoc 3) (sVal (sOps gIdx (b2 (sLoc 5) (sLoc 2))))))
def t0_bars : SS := (sIfS (sTst (sOps gNe (b2 (sVal (sOps gSum (bCons (sVal c2_bars) bNil))) (sVal (sCst (.int 0)))))) (sRet (sCst (.bl false))) sNx)
def l0_bars : SS := sFor (iRng1' (sCons (sOps gLen (bCons (sVal (sOps gIdx (b2 (sVal (sOps gIdx (b2 (sLoc 0) (sVal (sCst (.int 0)))))) (sVal (sCst (.int 1)))))) bNil)) sNil)) (gSet 2) t0_bars
def b_bars : SS := (sSeq (sIfS (tOrS (tNotS (sTru (sVal (sIsi ["tuple"] (sLoc 1))))) (sTst (sOps gNe (b2 (sVal (sOps gLen (bCons (sLoc 1) bNil))) (sVal (sOps gLen (bCons (sLoc 0) bNil))))))) (sRet (sCst (.bl false))) sNx)
  (sSeq (sIfS (tNotS (sTru (sVal (sOps gAll (bCons (sVal c0_bars) bNil))))) (sRet (sCst (.bl false))) sNx)
  (sSeq (sIfS (tNotS (sTru (sVal (sOps gAny (bCons (sVal c1_bars) bNil))))) (sRet (sCst (.bl false))) sNx)
  (sSeq l0_bars
  (sRet (sCst (.bl true)))))))
def m_bars : List D → FR := runP 6 2 b_bars
abbrev st_are_weights : Stmt := top 21
theorem sc_are_weights : FnScope ["system", "thing"] ["system", "thing"] (defScope st_are_weights) := ⟨rfl, rfl, rfl, by decide +kernel, rfl, by decide +kernel, by decide +kernel⟩
def b_are_weights : SS := (sSeq (sExpr (sCallP 1 (m_looked) (sCons (sVar 0) sNil)))
  (sRet (sCallP 2 (m_bars) (sCons (sVar 0) (sCons (sVar 1) sNil)))))
def m_are_weights : List D → FR := runP 2 2 b_are_weights
abbrev st_L_any : Stmt := top 28
theorem sc_L_any : FnScope ["_law_tape", "_law_deep", "_law_course", "_law_some", "_law_k"] ["_law_tape", "_law_deep"] (defScope st_L_any) := ⟨rfl, rfl, rfl, by decide +kernel, rfl, by decide +kernel, by decide +kernel⟩
def c0_L_any (self : List D → FR) : SE := sComp [4] (iRng1' (sCons (sCallI 0 2 (m_L_draw) (sCons (sCst (.int 4)) sNil)) sNil)) (gSet 4) tT1 (sCallI 0 2 self (sCons (sOps gSub (b2 (sLoc 1) (sVal (sCst (.int 1))))) sNil))
def b_L_any (self : List D → FR) : SS := (sSeq (sAsg (gSet 2) (sCallI 0 2 (m_L_draw) (sCons (sCst (.int 13)) sNil)))
  (sSeq (sIfS (tAndS (sTst (sOps gLt (b2 (sLoc 2) (sVal (sCst (.int 4)))))) (sTst (sOps gGt (b2 (sLoc 1) (sVal (sCst (.int 0))))))) (sSeq (sAsg (gOwn 3) (c0_L_any self))
  (sRet (sOps gIdx (b2 (sVal (sLst (sCons (sVar 3) (sCons (sOps gTuple (bCons (sLoc 3) bNil)) (sCons (sOps gTuple (bCons (sLoc 3) bNil)) (sCons (sOps gTuple (bCons (sLoc 3) bNil)) sNil)))))) (sLoc 2))))) sNx)
  (sSeq (sIfS (sTst (sOps gLt (b2 (sLoc 2) (sVal (sCst (.int 8)))))) (sRet (sOps gIdx (b2 (sVal (sLst (sCons (sOps gSub (b2 (sVal (sCallI 0 2 (m_L_draw) (sCons (sCst (.int 12)) sNil))) (sVal (sCst (.int 2))))) (sCons (sCallI 0 2 (m_L_draw) (sCons (sOps gPow (b2 (sVal (sCst (.int 10))) (sVal (sCst (.int 12))))) sNil)) (sCons (sCst (.int 0)) (sCons (sCst (.int 3)) sNil)))))) (sVal (sOps gMax2 (bCons (sVal (sCst (.int 0))) (bCons (sVal (sOps gSub (b2 (sLoc 2) (sVal (sCst (.int 4)))))) bNil))))))) sNx)
  (sSeq (sAsg (gOwn 3) (sLst (sCons (sCst (.str "")) (sCons (sCst (.str "0")) (sCons (sCst (.str "a")) (sCons (sCst (.str "get")) (sCons (sCst (.str "add")) (sCons (sCst (.str "plus")) (sCons (sCst (.str "set")) sNil)))))))))
  (sRet (sOps gIdx (b2 (sVal (sLst (sCons (sCst (.bl true)) (sCons (sCst (.bl false)) (sCons (sCst .non) (sCons (sOps gIdx (b2 (sLoc 3) (sVal (sCallI 0 2 (m_L_draw) (sCons (sCst (.int 7)) sNil))))) (sCons (sTup (sCons (sCst (.int 1)) (sCons (sCst (.int 2)) sNil))) sNil))))))) (sVal (sOps gSub (b2 (sLoc 2) (sVal (sCst (.int 8)))))))))))))
def m_L_any : Nat → List D → FR
  | 0 => fun _ => .stuck
  | n + 1 => runI 5 2 (b_L_any (m_L_any n))
abbrev st_L_like : Stmt := top 26
theorem sc_L_like : FnScope ["_law_one", "_law_two", "_law_k"] ["_law_one", "_law_two"] (defScope st_L_like) := ⟨rfl, rfl, rfl, by decide +kernel, rfl, by decide +kernel, by decide +kernel⟩
def c0_L_like (self : List D → FR) : SE := sComp [2] (iRng1' (sCons (sOps gLen (bCons (sLoc 0) bNil)) sNil)) (gSet 2) (tNotS (sTru (sVal (sCallP 2 self (sCons (sOps gIdx (b2 (sLoc 0) (sLoc 2))) (sCons (sOps gIdx (b2 (sLoc 1) (sLoc 2))) sNil)))))) (sVar 2)
def u0_L_like (self : List D → FR) : SS := (sSeq (sIfS (tOrS (sTst (sOps gNe (b2 (sVal (sIsi ["list"] (sLoc 0))) (sVal (sIsi ["list"] (sLoc 1)))))) (sTst (sOps gNe (b2 (sVal (sIsi ["tuple"] (sLoc 0))) (sVal (sIsi ["tuple"] (sLoc 1))))))) (sRet (sCst (.bl false))) sNx)
  (sSeq (sIfS (sTst (sOps gNe (b2 (sVal (sOps gLen (bCons (sLoc 0) bNil))) (sVal (sOps gLen (bCons (sLoc 1) bNil)))))) (sRet (sCst (.bl false))) sNx)
  (sRet (sOps gEq (b2 (sVal (c0_L_like self)) (sVal (sLst sNil)))))))
def b_L_like (self : List D → FR) : SS := (sSeq (sIfS (sTru (sVal (sIsi ["list", "tuple"] (sLoc 0)))) (u0_L_like self) sNx)
  (sSeq (sIfS (sTru (sVal (sIsi ["list", "tuple"] (sLoc 1)))) (sRet (sCst (.bl false))) sNx)
  (sRet (sAnd (sOps gEq (b2 (sVal (sIsi ["bool"] (sLoc 0))) (sVal (sIsi ["bool"] (sLoc 1))))) (sOps gEq (b2 (sLoc 0) (sLoc 1)))))))
def m_L_like : Nat → List D → FR
  | 0 => fun _ => .stuck
  | n + 1 => runP 3 2 (b_L_like (m_L_like n))
abbrev st_L_whole : Stmt := top 25
theorem sc_L_whole : FnScope ["_law_item"] ["_law_item"] (defScope st_L_whole) := ⟨rfl, rfl, rfl, by decide +kernel, rfl, by decide +kernel, by decide +kernel⟩
def b_L_whole : SS := (sRet (sAnd (sIsi ["int"] (sLoc 0)) (sNot (sVal (sIsi ["bool"] (sLoc 0))))))
def m_L_whole : List D → FR := runP 1 1 b_L_whole
abbrev st_L_spoilt : Stmt := top 27
theorem sc_L_spoilt : FnScope ["_law_tape", "_law_item", "_law_k", "_law_rest", "_law_course", "_law_at"] ["_law_tape", "_law_item"] (defScope st_L_spoilt) := ⟨rfl, rfl, rfl, by decide +kernel, rfl, by decide +kernel, by decide +kernel⟩
def i0_L_spoilt (self : List D → FR) : SS := sIfS (sTst (sOps gLt (b2 (sLoc 4) (sVal (sCst (.int 8)))))) (sAsg (gPut 3 (sLoc 2)) (sCallI 0 2 self (sCons (sOps gIdx (b2 (sLoc 3) (sLoc 2))) sNil))) (sIfS (sTst (sOps gEq (b2 (sLoc 4) (sVal (sCst (.int 8)))))) (sExpr (sMut 3 mPop (sCons (sVar 2) sNil))) (sIfS (sTst (sOps gEq (b2 (sLoc 4) (sVal (sCst (.int 9)))))) (sExpr (sMut 3 mInsert (sCons (sVar 2) (sCons (sOps gIdx (b2 (sLoc 3) (sVal (sCallI 0 2 (m_L_draw) (sCons (sOps gLen (bCons (sLoc 3) bNil)) sNil))))) sNil)))) (sIfS (sTst (sOps gEq (b2 (sLoc 4) (sVal (sCst (.int 10)))))) (sAsg (gOwn 3) (sRev (sLoc 3))) (sExpr (sMut 3 mInsert (sCons (sVar 2) (sCons (sCallI 0 2 (m_L_any 40) (sCons (sCst (.int 1)) sNil)) sNil)))))))
def u0_L_spoilt (self : List D → FR) : SS := (sSeq (sAsg (gSet 2) (sCallI 0 2 (m_L_draw) (sCons (sOps gLen (bCons (sLoc 1) bNil)) sNil)))
  (sSeq (sAsg (gOwn 3) (sOps gList (bCons (sLoc 1) bNil)))
  (sSeq (sAsg (gSet 4) (sCallI 0 2 (m_L_draw) (sCons (sCst (.int 12)) sNil)))
  (sSeq (i0_L_spoilt self)
  (sRet (sIf (sTru (sVal (sIsi ["tuple"] (sLoc 1)))) (sOps gTuple (bCons (sLoc 3) bNil)) (sVar 3)))))))
def b_L_spoilt (self : List D → FR) : SS := (sSeq (sIfS (tAndS (sTru (sVal (sIsi ["tuple", "list"] (sLoc 1)))) (tAndS (sTst (sOps gGt (b2 (sVal (sOps gLen (bCons (sLoc 1) bNil))) (sVal (sCst (.int 0)))))) (sTst (sOps gGt (b2 (sVal (sCallI 0 2 (m_L_draw) (sCons (sCst (.int 7)) sNil))) (sVal (sCst (.int 0)))))))) (u0_L_spoilt self) sNx)
  (sSeq (sIfS (tAndS (sTru (sVal (sCallP 1 (m_L_whole) (sCons (sVar 1) sNil)))) (sTst (sOps gGt (b2 (sVal (sCallI 0 2 (m_L_draw) (sCons (sCst (.int 6)) sNil))) (sVal (sCst (.int 0))))))) (sRet (sOps gAdd (b2 (sLoc 1) (sVal (sOps gIdx (b2 (sVal (sLst (sCons (sCst (.int 1)) (sCons (sOps gNeg (b1 (sVal (sCst (.int 1))))) (sCons (sCst (.int 2)) (sCons (sOps gNeg (b1 (sVal (sCst (.int 2))))) (sCons (sCst (.int 9)) (sCons (sCst (.int 1000)) sNil)))))))) (sVal (sCallI 0 2 (m_L_draw) (sCons (sCst (.int 6)) sNil))))))))) sNx)
  (sSeq (sIfS (tAndS (sTru (sVal (sIsi ["str"] (sLoc 1)))) (sTst (sOps gGt (b2 (sVal (sCallI 0 2 (m_L_draw) (sCons (sCst (.int 3)) sNil))) (sVal (sCst (.int 0))))))) (sSeq (sAsg (gSet 5) (sCallI 0 2 (m_L_draw) (sCons (sOps gAdd (b2 (sVal (sOps gLen (bCons (sLoc 1) bNil))) (sVal (sCst (.int 1))))) sNil)))
  (sRet (sOps gAdd (b2 (sVal (sOps gAdd (b2 (sVal (sSlice (sLoc 1) sPn (sPe (sVar 5)))) (sVal (sOps gIdx (b2 (sVal (sLst (sCons (sCst (.str " ")) (sCons (sCst (.str "z")) (sCons (sCst (.str "A")) (sCons (sCst (.str "|")) (sCons (sCst (.str "abcdefgh")) (sCons (sCst (.str "")) sNil)))))))) (sVal (sCallI 0 2 (m_L_draw) (sCons (sCst (.int 6)) sNil))))))))) (sVal (sSlice (sLoc 1) (sPe (sVar 5)) sPn)))))) sNx)
  (sSeq (sIfS (tAndS (sTru (sVal (sIsi ["tuple", "list"] (sLoc 1)))) (sTst (sOps gEq (b2 (sVal (sCallI 0 2 (m_L_draw) (sCons (sCst (.int 2)) sNil))) (sVal (sCst (.int 0))))))) (sRet (sIf (sTru (sVal (sIsi ["tuple"] (sLoc 1)))) (sOps gList (bCons (sLoc 1) bNil)) (sOps gTuple (bCons (sLoc 1) bNil)))) sNx)
  (sRet (sCallI 0 2 (m_L_any 40) (sCons (sCst (.int 2)) sNil)))))))
def m_L_spoilt : Nat → List D → FR
  | 0 => fun _ => .stuck
  | n + 1 => runI 6 2 (b_L_spoilt (m_L_spoilt n))
abbrev st_L_bars : Stmt := top 32
theorem sc_L_bars : FnScope ["_law_system_here", "_law_weights", "_law_place", "_law_weight", "_law_row"] ["_law_system_here", "_law_weights"] (defScope st_L_bars) := ⟨rfl, rfl, rfl, by decide +kernel, rfl, by decide +kernel, by decide +kernel⟩
def c0_L_bars : SE := sComp [3, 4] (iZipX (sCons (sVar 1) (sCons (sVar 0) sNil))) (gTup' 2 (gC (gSet 3) (gC (gSet 4) gN))) tT1 (sOps gMul (b2 (sLoc 3) (sVal (sOps gIdx (b2 (sVal (sOps gIdx (b2 (sLoc 4) (sVal (sCst (.int 1)))))) (sLoc 2))))))
def t0_L_bars : SS := (sIfS (sTst (sOps gNe (b2 (sVal (sOps gSum (bCons (sVal c0_L_bars) bNil))) (sVal (sCst (.int 0)))))) (sRet (sCst (.bl false))) sNx)
def l0_L_bars : SS := sFor (iRng1' (sCons (sOps gLen (bCons (sVal (sOps gIdx (b2 (sVal (sOps gIdx (b2 (sLoc 0) (sVal (sCst (.int 0)))))) (sVal (sCst (.int 1)))))) bNil)) sNil)) (gSet 2) t0_L_bars
def c1_L_bars : SE := sComp [3, 4] (iZipX (sCons (sVar 1) (sCons (sVar 0) sNil))) (gTup' 2 (gC (gSet 3) (gC (gSet 4) gN))) (tAndS (sTst (sOps gGt (b2 (sLoc 3) (sVal (sCst (.int 0)))))) (sTru (sVal (sOps gIdx (b2 (sLoc 4) (sVal (sCst (.int 0)))))))) (sCst (.int 1))
def b_L_bars : SS := (sSeq l0_L_bars
  (sRet (sOps gNe (b2 (sVal c1_L_bars) (sVal (sLst sNil))))))
def m_L_bars : List D → FR := runP 5 2 b_L_bars
abbrev st_L_are_weights : Stmt := top 33
theorem sc_L_are_weights : FnScope ["_law_system_here", "_law_thing", "_law_part"] ["_law_system_here", "_law_thing"] (defScope st_L_are_weights) := ⟨rfl, rfl, rfl, by decide +kernel, rfl, by decide +kernel, by decide +kernel⟩
def c0_L_are_weights : SE := sComp [2] (iAny (sVar 1)) (gSet 2) (tOrS (tNotS (sTru (sVal (sCallP 1 (m_L_whole) (sCons (sVar 2) sNil))))) (sTst (sOps gLt (b2 (sLoc 2) (sVal (sCst (.int 0))))))) (sVar 2)
def b_L_are_weights : SS := (sSeq (sIfS (tOrS (tNotS (sTru (sVal (sIsi ["tuple"] (sLoc 1))))) (sTst (sOps gNe (b2 (sVal (sOps gLen (bCons (sLoc 1) bNil))) (sVal (sOps gLen (bCons (sLoc 0) bNil))))))) (sRet (sCst (.bl false))) sNx)
  (sSeq (sIfS (sTst (sOps gNe (b2 (sVal c0_L_are_weights) (sVal (sLst sNil))))) (sRet (sCst (.bl false))) sNx)
  (sRet (sCallP 2 (m_L_bars) (sCons (sVar 0) (sCons (sVar 1) sNil))))))
def m_L_are_weights : List D → FR := runP 3 2 b_L_are_weights
abbrev st_law : Stmt := top 34
theorem sc_law : FnScope ["_law_script", "_law_tape", "_law_turn", "_law_many", "_law_system_here", "_law_one", "_law_weights", "_law_things", "_law_thing", "_law_row", "_law_part"] ["_law_script"] (defScope st_law) := ⟨rfl, rfl, rfl, by decide +kernel, rfl, by decide +kernel, by decide +kernel⟩
def c0_law : SE := sComp [10] (iAny (sOps gIdx (b2 (sLoc 5) (sVal (sCst (.int 1)))))) (gSet 10) tT1 (sOps gSub (b2 (sVal (sCst (.int 0))) (sLoc 10)))
def c1_law : SE := sComp [9] (iAny (sVar 4)) (gSet 9) tT1 (sCallI 1 2 (m_L_draw) (sCons (sCst (.int 3)) sNil))
def c2_law : SE := sComp [10] (iAny (sVar 6)) (gSet 10) tT1 (sOps gMul (b2 (sVal (sCst (.int 2))) (sLoc 10)))
def c3_law : SE := sComp [10] (iAny (sVar 6)) (gSet 10) tT1 (sOps gSub (b2 (sVal (sCst (.int 0))) (sLoc 10)))
def c4_law : SE := sComp [10] (iRng1' (sCons (sCst (.int 5)) sNil)) (gSet 10) tT1 (sCallI 1 2 (m_L_spoilt 40) (sCons (sVar 6) sNil))
def u0_law : SS := (sSeq (sAsg (gSet 7) (sOps gAdd (b2 (sLoc 7) (sVal (sLst (sCons (sVar 6) (sCons (sOps gTuple (bCons (sVal c2_law) bNil)) (sCons (sOps gList (bCons (sLoc 6) bNil)) (sCons (sOps gAdd (b2 (sLoc 6) (sVal (sTup (sCons (sCst (.int 0)) sNil))))) sNil)))))))))
  (sSeq (sAsg (gSet 7) (sOps gAdd (b2 (sLoc 7) (sVal (sLst (sCons (sOps gTuple (bCons (sVal c3_law) bNil)) (sCons (sSlice (sLoc 6) sPn (sPe (sOps gNeg (b1 (sVal (sCst (.int 1))))))) (sCons (sRevE (sLoc 6)) sNil))))))))
  (sSeq (sAsg (gSet 7) (sOps gAdd (b2 (sLoc 7) (sVal c4_law))))
  (sIfS (tNotS (sTru (sVal (sCallP 2 (m_are_weights) (sCons (sVar 4) (sCons (sVar 6) sNil)))))) (sRet (sCst (.bl false))) sNx))))
def t0_law : SS := (sIfS (tNotS (sTru (sVal (sCallP 2 (m_L_like 40) (sCons (sCallP 2 (m_are_weights) (sCons (sVar 4) (sCons (sVar 8) sNil))) (sCons (sCallP 2 (m_L_are_weights) (sCons (sVar 4) (sCons (sVar 8) sNil))) sNil)))))) (sRet (sCst (.bl false))) sNx)
def l0_law : SS := sFor (iAny (sVar 7)) (gSet 8) t0_law
def t1_law : SS := (sSeq (sAsg (gSet 3) (sOps gAdd (b2 (sVal (sCst (.int 1))) (sVal (sCallI 1 2 (m_L_draw) (sCons (sCst (.int 3)) sNil))))))
  (sSeq (sAsg (gSet 4) (sCallI 1 4 (m_L_system) (sCons (sVar 3) (sCons (sCst (.int 5)) (sCons (sCst (.int 2)) sNil)))))
  (sSeq (sAsg (gSet 5) (sCallI 1 2 (m_L_of) (sCons (sVar 4) sNil)))
  (sSeq (sIfS (sTst (sOps gGt (b2 (sVal (sCallI 1 2 (m_L_draw) (sCons (sCst (.int 3)) sNil))) (sVal (sCst (.int 0)))))) (sAsg (gSet 4) (sOps gAdd (b2 (sLoc 4) (sVal (sTup (sCons (sTup (sCons (sNot (sVal (sOps gIdx (b2 (sLoc 5) (sVal (sCst (.int 0))))))) (sCons (sOps gTuple (bCons (sVal c0_law) bNil)) sNil))) sNil)))))) sNx)
  (sSeq (sAsg (gSet 6) (sCallP 1 (m_weights_for) (sCons (sVar 4) sNil)))
  (sSeq (sAsg (gOwn 7) (sLst (sCons (sTup sNil) (sCons (sOps gMul (b2 (sVal (sTup (sCons (sCst (.int 0)) sNil))) (sVal (sOps gLen (bCons (sLoc 4) bNil))))) (sCons (sOps gMul (b2 (sVal (sTup (sCons (sCst (.int 1)) sNil))) (sVal (sOps gLen (bCons (sLoc 4) bNil))))) (sCons (sCallI 1 2 (m_L_any 40) (sCons (sCst (.int 2)) sNil)) (sCons (sCst .non) sNil)))))))
  (sSeq (sExpr (sMut 7 mAppend (sCons (sOps gTuple (bCons (sVal c1_law) bNil)) sNil)))
  (sSeq (sIfS (sTst (sOps gIsNot (b2 (sLoc 6) (sVal (sCst .non))))) u0_law sNx)
  l0_law))))))))
def l1_law : SS := sFor (iRng1' (sCons (sCst (.int 12)) sNil)) (gSet 2) t1_law
def b_law : SS := (sSeq (sAsg (gOwn 1) (sLst (sCons (sOps gList (bCons (sLoc 0) bNil)) (sCons (sCst (.int 0)) (sCons (sCst (.int 0)) sNil)))))
  (sSeq l1_law
  (sRet (sOps gIs (b2 (sVal (sCallP 2 (m_are_weights) (sCons (sTup (sCons (sTup (sCons (sCst (.bl false)) (sCons (sTup (sCons (sCst (.int 1)) sNil)) sNil))) (sCons (sTup (sCons (sCst (.bl false)) (sCons (sTup (sCons (sOps gNeg (b1 (sVal (sCst (.int 1))))) sNil)) sNil))) sNil))) (sCons (sTup (sCons (sCst (.int 1)) (sCons (sCst (.int 1)) sNil))) sNil)))) (sVal (sCst (.bl false))))))))
def m_law : List D → FR := runP 11 1 b_law
structure Tx (K : PySem.W.Frag) (mg : Str → Option Value) : Prop where
  n_abs : mg "abs" = none
  n_all : mg "all" = none
  n_any : mg "any" = none
  n_bool : mg "bool" = none
  n_enumerate : mg "enumerate" = none
  n_int : mg "int" = none
  n_isinstance : mg "isinstance" = none
  n_len : mg "len" = none
  n_list : mg "list" = none
  n_max : mg "max" = none
  n_range : mg "range" = none
  n_str : mg "str" = none
  n_sum : mg "sum" = none
  n_tuple : mg "tuple" = none
  n_zip : mg "zip" = none
  c_MOST_PLACES : ∃ u, mg "MOST_PLACES" = some u ∧ RelV (.int 4) u
  c_MOST_ROWS : ∃ u, mg "MOST_ROWS" = some u ∧ RelV (.int 24) u
section
variable {P : Program} {w : World} {K : PySem.W.Frag} {mg : Str → Option Value} {base : Heap} {ex : String → Addr}
theorem w_L_draw (T : Tx K mg) (F : Fn K mg "_law_draw" st_L_draw ["_law_tape", "_law_many"]) : Cal P w K mg base "_law_draw" 1 (spI ⟨K, ex⟩ 2 m_L_draw) :=
  cal_I ex F sc_L_draw (by decide) fun f cdv A outer s H E hr => by
    have hu := at_def (P := P) (w := w) (K := K) (mg := mg) (base := base) (f := f) (cdv := cdv) (A := A) (outer := outer) (s := s) (H := H) (E := E) sc_L_draw hr
    exact (d_scons (d_set hu rfl (by first | exact Or.inl rfl | exact Or.inr rfl) d_int)
      (d_scons (d_ifS (d_tcmp op_ltA psem_ord (d_val (d_idx hu (d_loc (pv 0)) (d_val d_int))) (d_loc (pv 1)) (nomark _)) (d_scons (d_set hu rfl (by first | exact Or.inl rfl | exact Or.inr rfl) d_int)
      (d_scons (d_ifS (d_tcmp op_gtA psem_ord (d_val (d_callB call_lenA psem_len rfl T.n_len (d_bcons (d_val (d_idx hu (d_loc (pv 0)) (d_val d_int))) d_bnil))) (d_val d_int) (nomark _)) (d_sone (d_set hu rfl (by first | exact Or.inl rfl | exact Or.inr rfl) (d_idx hu (d_val (d_idx hu (d_loc (pv 0)) (d_val d_int))) (d_val (d_mod (d_val (d_callTy call_int1 psem_int rfl T.n_int (d_bcons (d_val (d_idx hu (d_loc (pv 0)) (d_val d_int))) d_bnil))) (d_val (d_callB call_lenA psem_len rfl T.n_len (d_bcons (d_val (d_idx hu (d_loc (pv 0)) (d_val d_int))) d_bnil)))))))) d_snil)
      (d_scons (d_ifS (PW.pt (d_wor (d_tcmp op_geA psem_ord (d_val (d_idx hu (d_loc (pv 0)) (d_val d_int))) (d_val (d_callB call_lenA psem_len rfl T.n_len (d_bcons (d_val (d_idx hu (d_loc (pv 0)) (d_val d_int))) d_bnil))) (nomark _)) (d_wor1 (d_tcmp op_ltA psem_ord (d_loc (pv 4)) (d_val (d_pow (d_val d_int) (d_val d_int))) (nomark _))))) (d_scons (d_set hu rfl (by first | exact Or.inl rfl | exact Or.inr rfl) (d_mod (d_val (d_callTy call_int1 psem_int rfl T.n_int (d_bcons (d_val (d_add (d_loc (pv 4)) (d_val (d_mul (d_val d_int) (d_val (d_idx hu (d_loc (pv 0)) (d_val d_int))))))) d_bnil))) (d_loc (pv 2))))
      (d_scons (d_set hu rfl (by first | exact Or.inl rfl | exact Or.inr rfl) (d_mod (d_val (d_callTy call_int1 psem_int rfl T.n_int (d_bcons (d_val (d_add (d_val (d_add (d_val (d_mul (d_loc (pv 4)) (d_loc (pv 4)))) (d_val (d_mul (d_val d_int) (d_loc (pv 4)))))) (d_val d_int))) d_bnil))) (d_loc (pv 2))))
      (d_sone (d_set hu rfl (by first | exact Or.inl rfl | exact Or.inr rfl) (d_mod (d_val (d_callTy call_int1 psem_int rfl T.n_int (d_bcons (d_val (d_add (d_val (d_mul (d_loc (pv 4)) (d_loc (pv 4)))) (d_val d_int))) d_bnil))) (d_loc (pv 2))))))) d_snil)
      (d_scons (d_asg (d_add (d_val (d_idx hu (d_loc (pv 0)) (d_val d_int))) (d_val d_int)) (d_gPut hu (pv 0) (d_val d_int)))
      (d_sone (d_asg (d_var (pv 4)) (d_gPut hu (pv 0) (d_val d_int)))))))) d_snil)
      (d_scons (d_set hu rfl (by first | exact Or.inl rfl | exact Or.inr rfl) (d_mod (d_val (d_callTy call_int1 psem_int rfl T.n_int (d_bcons (d_val (d_idx hu (d_loc (pv 0)) (d_val d_int))) d_bnil))) (d_loc (pv 1))))
      (d_scons (d_asg (d_div (d_val (d_idx hu (d_loc (pv 0)) (d_val d_int))) (d_loc (pv 1))) (d_gPut hu (pv 0) (d_val d_int)))
      (d_sone (d_ret (d_var (pv 3))))))))
theorem w_L_near (T : Tx K mg) (F : Fn K mg "_law_near" st_L_near ["_law_tape", "_law_wide"]) (C_L_draw : Cal P w K mg base "_law_draw" 1 (spI ⟨K, ex⟩ 2 (m_L_draw))) : Cal P w K mg base "_law_near" 2 (spI ⟨K, ex⟩ 2 m_L_near) :=
  cal_I ex F sc_L_near (by decide) fun f cdv A outer s H E hr => by
    have hu := at_def (P := P) (w := w) (K := K) (mg := mg) (base := base) (f := f) (cdv := cdv) (A := A) (outer := outer) (s := s) (H := H) (E := E) sc_L_near hr
    exact (d_sone (d_ret (d_sub (d_val (d_callI hu C_L_draw (hr.mono (by omega)) rfl (pv 0) (d_cons (d_add (d_val (d_mul (d_val d_int) (d_loc (pv 1)))) (d_val d_int)) d_nil))) (d_loc (pv 1)))))
theorem w_L_system (T : Tx K mg) (F : Fn K mg "_law_system" st_L_system ["_law_tape", "_law_many", "_law_limit", "_law_wide"]) (C_L_draw : Cal P w K mg base "_law_draw" 1 (spI ⟨K, ex⟩ 2 (m_L_draw))) (C_L_near : Cal P w K mg base "_law_near" 2 (spI ⟨K, ex⟩ 2 (m_L_near))) : Cal P w K mg base "_law_system" 3 (spI ⟨K, ex⟩ 4 m_L_system) :=
  cal_I ex F sc_L_system (by decide) fun f cdv A outer s H E hr => by
    have hu := at_def (P := P) (w := w) (K := K) (mg := mg) (base := base) (f := f) (cdv := cdv) (A := A) (outer := outer) (s := s) (H := H) (E := E) sc_L_system hr
    exact (d_scons (d_set hu rfl (by first | exact Or.inl rfl | exact Or.inr rfl) (d_tup d_nil))
      (d_scons (d_for hu (passes_of rfl) (d_iRng1 rfl T.n_range (d_cons (d_add (d_val d_int) (d_val (d_callI hu C_L_draw (hr.mono (by omega)) rfl (pv 0) (d_cons (d_var (pv 2)) d_nil)))) d_nil)) (d_gName hu.nd rfl (by first | exact Or.inl rfl | exact Or.inr rfl) (by first | exact Or.inl rfl | exact Or.inr rfl)) (d_scons (d_set hu rfl (by first | exact Or.inl rfl | exact Or.inr rfl) (d_callTy call_tupleZ psem_tuple rfl T.n_tuple (d_bcons (d_val (d_fz (d_compF (own := [("_law_place", 7)]) hu (d_iRng1 rfl T.n_range (d_cons (d_var (pv 1)) d_nil)) (blkOk_by (N := ["_law_tape", "_law_many", "_law_limit", "_law_wide", "_law_found", "_law_part", "_law_form", "_law_place"]) (sc := defScope st_L_system) (own := [("_law_place", 7)]) (by decide +kernel)) (fun _ _ _ _ _ => (d_gName (at_blk hu).nd rfl (by first | exact Or.inl rfl | exact Or.inr rfl) (by first | exact Or.inl rfl | exact Or.inr rfl))) (fun _ _ _ _ _ => pts_nilT) (fun _ _ _ _ _ => (d_callI (at_blk hu) C_L_near (hr.mono (by omega)) rfl (pv 0) (d_cons (d_var (pv 3)) d_nil))) (by decide)))) d_bnil)))
      (d_sone (d_set hu rfl (by first | exact Or.inl rfl | exact Or.inr rfl) (d_add (d_loc (pv 4)) (d_val (d_tup (d_cons (d_tup (d_cons (d_cmp (op_eqD hu.un) psem_eq (d_val (d_callI hu C_L_draw (hr.mono (by omega)) rfl (pv 0) (d_cons d_int d_nil))) (d_val d_int) (nomark _)) (d_cons (d_var (pv 6)) d_nil))) d_nil))))))))
      (d_sone (d_ret (d_var (pv 4))))))
theorem w_L_of (T : Tx K mg) (F : Fn K mg "_law_of" st_L_of ["_law_tape", "_law_some"]) (C_L_draw : Cal P w K mg base "_law_draw" 1 (spI ⟨K, ex⟩ 2 (m_L_draw))) : Cal P w K mg base "_law_of" 2 (spI ⟨K, ex⟩ 2 m_L_of) :=
  cal_I ex F sc_L_of (by decide) fun f cdv A outer s H E hr => by
    have hu := at_def (P := P) (w := w) (K := K) (mg := mg) (base := base) (f := f) (cdv := cdv) (A := A) (outer := outer) (s := s) (H := H) (E := E) sc_L_of hr
    exact (d_sone (d_ret (d_idx hu (d_loc (pv 1)) (d_val (d_callI hu C_L_draw (hr.mono (by omega)) rfl (pv 0) (d_cons (d_callB call_lenA psem_len rfl T.n_len (d_bcons (d_loc (pv 1)) d_bnil)) d_nil))))))
theorem w_is_integer (T : Tx K mg) (F : Fn K mg "is_integer" st_is_integer ["thing"]) : Cal P w K mg base "is_integer" 1 (spP ⟨K, ex⟩ 1 m_is_integer) :=
  cal_P ex F sc_is_integer fun f cdv A outer s H E hr => by
    have hu := at_def (P := P) (w := w) (K := K) (mg := mg) (base := base) (f := f) (cdv := cdv) (A := A) (outer := outer) (s := s) (H := H) (E := E) sc_is_integer hr
    exact (d_sone (d_ret (d_and (d_isi1 rfl T.n_isinstance (by decide) rfl T.n_int (d_loc (pv 0))) (d_one (d_not (d_val (d_isi1 rfl T.n_isinstance (by decide) rfl T.n_bool (d_loc (pv 0)))))))))
theorem w_is_row (T : Tx K mg) (F : Fn K mg "is_row" st_is_row ["thing", "many"]) (C_is_integer : Cal P w K mg base "is_integer" 1 (spP ⟨K, ex⟩ 1 (m_is_integer))) : Cal P w K mg base "is_row" 2 (spP ⟨K, ex⟩ 2 m_is_row) :=
  cal_P ex F sc_is_row fun f cdv A outer s H E hr => by
    have hu := at_def (P := P) (w := w) (K := K) (mg := mg) (base := base) (f := f) (cdv := cdv) (A := A) (outer := outer) (s := s) (H := H) (E := E) sc_is_row hr
    exact (d_scons (d_ifS (PW.pt (d_wor (d_tnot (d_tru (d_val (d_isi1 rfl T.n_isinstance (by decide) rfl T.n_tuple (d_loc (pv 0)))))) (d_wor (d_tcmp (op_neD hu.un) psem_ne (d_val (d_callB call_lenA psem_len rfl T.n_len (d_bcons (d_loc (pv 0)) d_bnil))) (d_val d_int) (nomark _)) (d_wor1 (d_tnot (d_tru (d_val (d_isi1 rfl T.n_isinstance (by decide) rfl T.n_bool (d_val (d_idx hu (d_loc (pv 0)) (d_val d_int))))))))))) (d_sone (d_ret d_bl)) d_snil)
      (d_scons (d_ifS (PW.pt (d_wor (d_tnot (d_tru (d_val (d_isi1 rfl T.n_isinstance (by decide) rfl T.n_tuple (d_val (d_idx hu (d_loc (pv 0)) (d_val d_int))))))) (d_wor1 (d_tcmp (op_neD hu.un) psem_ne (d_val (d_callB call_lenA psem_len rfl T.n_len (d_bcons (d_val (d_idx hu (d_loc (pv 0)) (d_val d_int))) d_bnil))) (d_loc (pv 1)) (nomark _))))) (d_sone (d_ret d_bl)) d_snil)
      (d_sone (d_ret (d_callB (cr_all hu.calm) psem_all rfl T.n_all (d_bcons (d_val (d_fz (d_compF (own := [("part", 2)]) hu (d_iAny (d_idx hu (d_loc (pv 0)) (d_val d_int))) (blkOk_by (N := ["thing", "many", "part"]) (sc := defScope st_is_row) (own := [("part", 2)]) (by decide +kernel)) (fun _ _ _ _ _ => (d_gName (at_blk hu).nd rfl (by first | exact Or.inl rfl | exact Or.inr rfl) (by first | exact Or.inl rfl | exact Or.inr rfl))) (fun _ _ _ _ _ => pts_nilT) (fun _ _ _ _ _ => (d_callP (at_blk hu) C_is_integer (hr.mono (by omega)) rfl (d_cons (d_var (pv 2)) d_nil))) (by decide)))) d_bnil))))))
theorem w_is_system (T : Tx K mg) (F : Fn K mg "is_system" st_is_system ["thing"]) (C_is_row : Cal P w K mg base "is_row" 2 (spP ⟨K, ex⟩ 2 (m_is_row))) : Cal P w K mg base "is_system" 3 (spP ⟨K, ex⟩ 1 m_is_system) :=
  cal_P ex F sc_is_system fun f cdv A outer s H E hr => by
    have hu := at_def (P := P) (w := w) (K := K) (mg := mg) (base := base) (f := f) (cdv := cdv) (A := A) (outer := outer) (s := s) (H := H) (E := E) sc_is_system hr
    exact (d_scons (d_ifS (PW.pt (d_wor (d_tnot (d_tru (d_val (d_isi1 rfl T.n_isinstance (by decide) rfl T.n_tuple (d_loc (pv 0)))))) (d_wor1 (d_tnot (d_tchain op_leA op_leA psem_ord psem_ord (d_val d_int) (d_val (d_callB call_lenA psem_len rfl T.n_len (d_bcons (d_loc (pv 0)) d_bnil))) (d_val (d_glob rfl T.c_MOST_ROWS fun _ => .int _))))))) (d_sone (d_ret d_bl)) d_snil)
      (d_scons (d_set hu rfl (by first | exact Or.inl rfl | exact Or.inr rfl) (d_idx hu (d_loc (pv 0)) (d_val d_int)))
      (d_scons (d_ifS (PW.pt (d_wor (d_tnot (d_tru (d_val (d_isi1 rfl T.n_isinstance (by decide) rfl T.n_tuple (d_loc (pv 1)))))) (d_wor (d_tcmp (op_neD hu.un) psem_ne (d_val (d_callB call_lenA psem_len rfl T.n_len (d_bcons (d_loc (pv 1)) d_bnil))) (d_val d_int) (nomark _)) (d_wor1 (d_tnot (d_tru (d_val (d_isi1 rfl T.n_isinstance (by decide) rfl T.n_tuple (d_val (d_idx hu (d_loc (pv 1)) (d_val d_int))))))))))) (d_sone (d_ret d_bl)) d_snil)
      (d_scons (d_set hu rfl (by first | exact Or.inl rfl | exact Or.inr rfl) (d_callB call_lenA psem_len rfl T.n_len (d_bcons (d_val (d_idx hu (d_loc (pv 1)) (d_val d_int))) d_bnil)))
      (d_sone (d_ret (d_and (d_chain op_leA op_leA psem_ord psem_ord (d_val d_int) (d_loc (pv 2)) (d_val (d_glob rfl T.c_MOST_PLACES fun _ => .int _))) (d_one (d_callB (cr_all hu.calm) psem_all rfl T.n_all (d_bcons (d_val (d_fz (d_compF (own := [("part", 3)]) hu (d_iAny (d_var (pv 0))) (blkOk_by (N := ["thing", "first", "many", "part"]) (sc := defScope st_is_system) (own := [("part", 3)]) (by decide +kernel)) (fun _ _ _ _ _ => (d_gName (at_blk hu).nd rfl (by first | exact Or.inl rfl | exact Or.inr rfl) (by first | exact Or.inl rfl | exact Or.inr rfl))) (fun _ _ _ _ _ => pts_nilT) (fun _ _ _ _ _ => (d_callP (at_blk hu) C_is_row (hr.mono (by omega)) rfl (d_cons (d_var (pv 3)) (d_cons (d_var (pv 2)) d_nil)))) (by decide)))) d_bnil))))))))))
theorem w_looked (T : Tx K mg) (F : Fn K mg "looked" st_looked ["system"]) (C_is_system : Cal P w K mg base "is_system" 3 (spP ⟨K, ex⟩ 1 (m_is_system))) : Cal P w K mg base "looked" 4 (spP ⟨K, ex⟩ 1 m_looked) :=
  cal_P ex F sc_looked fun f cdv A outer s H E hr => by
    have hu := at_def (P := P) (w := w) (K := K) (mg := mg) (base := base) (f := f) (cdv := cdv) (A := A) (outer := outer) (s := s) (H := H) (E := E) sc_looked hr
    exact (d_sone (d_ifS (d_tnot (d_tru (d_val (d_callP hu C_is_system (hr.mono (by omega)) rfl (d_cons (d_var (pv 0)) d_nil))))) (d_sone d_never) d_snil))
theorem w_divisor_of (T : Tx K mg) (F : Fn K mg "divisor_of" st_divisor_of ["numbers"]) : Cal P w K mg base "divisor_of" 1 (spP ⟨K, ex⟩ 1 m_divisor_of) :=
  cal_P ex F sc_divisor_of fun f cdv A outer s H E hr => by
    have hu := at_def (P := P) (w := w) (K := K) (mg := mg) (base := base) (f := f) (cdv := cdv) (A := A) (outer := outer) (s := s) (H := H) (E := E) sc_divisor_of hr
    exact (d_scons (d_set hu rfl (by first | exact Or.inl rfl | exact Or.inr rfl) d_int)
      (d_scons (d_for hu (passes_of rfl) (d_iAny (d_var (pv 0))) (d_gName hu.nd rfl (by first | exact Or.inl rfl | exact Or.inr rfl) (by first | exact Or.inl rfl | exact Or.inr rfl)) (d_scons (d_par hu rfl rfl (by decide) rfl rfl (d_cons (d_callB call_abs psem_abs rfl T.n_abs (d_bcons (d_loc (pv 2)) d_bnil)) (d_cons (d_var (pv 1)) d_nil)) rfl)
      (d_scons (d_whileT (passes_of rfl) (d_tcmp op_gtA psem_ord (d_loc (pv 3)) (d_val d_int) (nomark _)) (d_sone (d_par hu rfl rfl (by decide) rfl rfl (d_cons (d_mod (d_loc (pv 4)) (d_loc (pv 3))) (d_cons (d_var (pv 3)) d_nil)) rfl)))
      (d_sone (d_set hu rfl (by first | exact Or.inl rfl | exact Or.inr rfl) (d_var (pv 4)))))))
      (d_sone (d_ret (d_var (pv 1))))))
theorem w_lean (T : Tx K mg) (F : Fn K mg "lean" st_lean ["rows"]) (C_divisor_of : Cal P w K mg base "divisor_of" 1 (spP ⟨K, ex⟩ 1 (m_divisor_of))) : Cal P w K mg base "lean" 2 (spP ⟨K, ex⟩ 1 m_lean) :=
  cal_P ex F sc_lean fun f cdv A outer s H E hr => by
    have hu := at_def (P := P) (w := w) (K := K) (mg := mg) (base := base) (f := f) (cdv := cdv) (A := A) (outer := outer) (s := s) (H := H) (E := E) sc_lean hr
    exact (d_scons (d_setF hu rfl (by first | exact Or.inl rfl | exact Or.inr rfl) d_ndF)
      (d_scons (d_for hu (passes_of rfl) (d_iAny (d_var (pv 0))) (d_gTup hu.calm (d_gC (d_gName hu.nd rfl (by first | exact Or.inl rfl | exact Or.inr rfl) (by first | exact Or.inl rfl | exact Or.inr rfl)) (d_gC (d_gName hu.nd rfl (by first | exact Or.inl rfl | exact Or.inr rfl) (by first | exact Or.inl rfl | exact Or.inr rfl)) (d_gC (d_gName hu.nd rfl (by first | exact Or.inl rfl | exact Or.inr rfl) (by first | exact Or.inl rfl | exact Or.inr rfl)) d_gN)))) (d_scons (d_set hu rfl (by first | exact Or.inl rfl | exact Or.inr rfl) (d_callB (call_max2 hu.calm) psem_max2 rfl T.n_max (d_bcons (d_val d_int) (d_bcons (d_val (d_callP hu C_divisor_of (hr.mono (by omega)) rfl (d_cons (d_add (d_loc (pv 3)) (d_loc (pv 4))) d_nil))) d_bnil))))
      (d_scons (d_set hu rfl (by first | exact Or.inl rfl | exact Or.inr rfl) (d_callTy call_tupleZ psem_tuple rfl T.n_tuple (d_bcons (d_val (d_fz (d_compF (own := [("part", 8)]) hu (d_iAny (d_var (pv 3))) (blkOk_by (N := ["rows", "found", "strict", "form", "weights", "divisor", "size", "key", "part"]) (sc := defScope st_lean) (own := [("part", 8)]) (by decide +kernel)) (fun _ _ _ _ _ => (d_gName (at_blk hu).nd rfl (by first | exact Or.inl rfl | exact Or.inr rfl) (by first | exact Or.inl rfl | exact Or.inr rfl))) (fun _ _ _ _ _ => pts_nilT) (fun _ _ _ _ _ => (d_div (d_loc (pv 8)) (d_loc (pv 5)))) (by decide)))) d_bnil)))
      (d_scons (d_set hu rfl (by first | exact Or.inl rfl | exact Or.inr rfl) (d_callTy call_tupleZ psem_tuple rfl T.n_tuple (d_bcons (d_val (d_fz (d_compF (own := [("part", 8)]) hu (d_iAny (d_var (pv 4))) (blkOk_by (N := ["rows", "found", "strict", "form", "weights", "divisor", "size", "key", "part"]) (sc := defScope st_lean) (own := [("part", 8)]) (by decide +kernel)) (fun _ _ _ _ _ => (d_gName (at_blk hu).nd rfl (by first | exact Or.inl rfl | exact Or.inr rfl) (by first | exact Or.inl rfl | exact Or.inr rfl))) (fun _ _ _ _ _ => pts_nilT) (fun _ _ _ _ _ => (d_div (d_loc (pv 8)) (d_loc (pv 5)))) (by decide)))) d_bnil)))
      (d_scons (d_set hu rfl (by first | exact Or.inl rfl | exact Or.inr rfl) (d_callP hu C_divisor_of (hr.mono (by omega)) rfl (d_cons (d_var (pv 3)) d_nil)))
      (d_scons (d_set hu rfl (by first | exact Or.inl rfl | exact Or.inr rfl) (d_if (d_tcmp op_gtA psem_ord (d_loc (pv 6)) (d_val d_int) (nomark _)) (d_callTy call_tupleZ psem_tuple rfl T.n_tuple (d_bcons (d_val (d_fz (d_compF (own := [("part", 8)]) hu (d_iAny (d_var (pv 3))) (blkOk_by (N := ["rows", "found", "strict", "form", "weights", "divisor", "size", "key", "part"]) (sc := defScope st_lean) (own := [("part", 8)]) (by decide +kernel)) (fun _ _ _ _ _ => (d_gName (at_blk hu).nd rfl (by first | exact Or.inl rfl | exact Or.inr rfl) (by first | exact Or.inl rfl | exact Or.inr rfl))) (fun _ _ _ _ _ => pts_nilT) (fun _ _ _ _ _ => (d_div (d_loc (pv 8)) (d_loc (pv 6)))) (by decide)))) d_bnil)) (d_tup (d_cons (d_var (pv 3)) (d_cons (d_var (pv 2)) d_nil)))))
      (d_sone (d_ifS (PW.pt (d_wor (d_tcmp (op_notInN hu.un) psem_notInN (d_loc (pv 7)) (d_loc (pv 1)) (by rfl)) (d_wor1 (PW.pt (d_wand (d_tru (d_loc (pv 2))) (d_wand1 (d_tnot (d_tru (d_val (d_idx hu (d_val (d_idxN hu (d_loc (pv 1)) (d_loc (pv 7)))) (d_val d_int))))))))))) (d_sone (d_asg (d_tup (d_cons (d_var (pv 2)) (d_cons (d_var (pv 3)) (d_cons (d_var (pv 4)) d_nil)))) (d_gPutN hu (pv 1) (d_loc (pv 7))))) d_snil))))))))
      (d_sone (d_ret (d_fz (d_compF (own := [("key", 7)]) hu (d_iNd (d_var (pv 1))) (blkOk_by (N := ["rows", "found", "strict", "form", "weights", "divisor", "size", "key", "part"]) (sc := defScope st_lean) (own := [("key", 7)]) (by decide +kernel)) (fun _ _ _ _ _ => (d_gName (at_blk hu).nd rfl (by first | exact Or.inl rfl | exact Or.inr rfl) (by first | exact Or.inl rfl | exact Or.inr rfl))) (fun _ _ _ _ _ => pts_nilT) (fun _ _ _ _ _ => (d_idxN (at_blk hu) (d_loc (pv 1)) (d_loc (pv 7)))) (by decide)))))))
theorem w_summed (T : Tx K mg) (F : Fn K mg "summed" st_summed ["low", "high", "more", "times"]) : Cal P w K mg base "summed" 1 (spP ⟨K, ex⟩ 4 m_summed) :=
  cal_P ex F sc_summed fun f cdv A outer s H E hr => by
    have hu := at_def (P := P) (w := w) (K := K) (mg := mg) (base := base) (f := f) (cdv := cdv) (A := A) (outer := outer) (s := s) (H := H) (E := E) sc_summed hr
    exact (d_scons (d_set hu rfl (by first | exact Or.inl rfl | exact Or.inr rfl) (d_callTy call_tupleZ psem_tuple rfl T.n_tuple (d_bcons (d_val (d_fz (d_compF (own := [("one", 6), ("other", 7)]) hu (d_iZipX rfl T.n_zip (d_cons (d_idx hu (d_loc (pv 0)) (d_val d_int)) (d_cons (d_idx hu (d_loc (pv 1)) (d_val d_int)) d_nil))) (blkOk_by (N := ["low", "high", "more", "times", "form", "weights", "one", "other"]) (sc := defScope st_summed) (own := [("one", 6), ("other", 7)]) (by decide +kernel)) (fun _ _ _ _ _ => (d_gTup (at_blk hu).calm (d_gC (d_gName (at_blk hu).nd rfl (by first | exact Or.inl rfl | exact Or.inr rfl) (by first | exact Or.inl rfl | exact Or.inr rfl)) (d_gC (d_gName (at_blk hu).nd rfl (by first | exact Or.inl rfl | exact Or.inr rfl) (by first | exact Or.inl rfl | exact Or.inr rfl)) d_gN)))) (fun _ _ _ _ _ => pts_nilT) (fun _ _ _ _ _ => (d_add (d_val (d_mul (d_loc (pv 2)) (d_loc (pv 6)))) (d_val (d_mul (d_loc (pv 3)) (d_loc (pv 7)))))) (by decide)))) d_bnil)))
      (d_scons (d_set hu rfl (by first | exact Or.inl rfl | exact Or.inr rfl) (d_callTy call_tupleZ psem_tuple rfl T.n_tuple (d_bcons (d_val (d_fz (d_compF (own := [("one", 6), ("other", 7)]) hu (d_iZipX rfl T.n_zip (d_cons (d_idx hu (d_loc (pv 0)) (d_val d_int)) (d_cons (d_idx hu (d_loc (pv 1)) (d_val d_int)) d_nil))) (blkOk_by (N := ["low", "high", "more", "times", "form", "weights", "one", "other"]) (sc := defScope st_summed) (own := [("one", 6), ("other", 7)]) (by decide +kernel)) (fun _ _ _ _ _ => (d_gTup (at_blk hu).calm (d_gC (d_gName (at_blk hu).nd rfl (by first | exact Or.inl rfl | exact Or.inr rfl) (by first | exact Or.inl rfl | exact Or.inr rfl)) (d_gC (d_gName (at_blk hu).nd rfl (by first | exact Or.inl rfl | exact Or.inr rfl) (by first | exact Or.inl rfl | exact Or.inr rfl)) d_gN)))) (fun _ _ _ _ _ => pts_nilT) (fun _ _ _ _ _ => (d_add (d_val (d_mul (d_loc (pv 2)) (d_loc (pv 6)))) (d_val (d_mul (d_loc (pv 3)) (d_loc (pv 7)))))) (by decide)))) d_bnil)))
      (d_sone (d_ret (d_tup (d_cons (d_or (d_idx hu (d_loc (pv 0)) (d_val d_int)) (d_one (d_idx hu (d_loc (pv 1)) (d_val d_int)))) (d_cons (d_var (pv 4)) (d_cons (d_var (pv 5)) d_nil))))))))
theorem w_without (T : Tx K mg) (F : Fn K mg "without" st_without ["rows", "place"]) (C_lean : Cal P w K mg base "lean" 2 (spP ⟨K, ex⟩ 1 (m_lean))) (C_summed : Cal P w K mg base "summed" 1 (spP ⟨K, ex⟩ 4 (m_summed))) : Cal P w K mg base "without" 3 (spP ⟨K, ex⟩ 2 m_without) :=
  cal_P ex F sc_without fun f cdv A outer s H E hr => by
    have hu := at_def (P := P) (w := w) (K := K) (mg := mg) (base := base) (f := f) (cdv := cdv) (A := A) (outer := outer) (s := s) (H := H) (E := E) sc_without hr
    exact (d_scons (d_setComp (own := [("row", 7)]) hu rfl rfl (sw_true rfl rfl rfl (by decide +kernel)) (d_iAny (d_var (pv 0))) (blkOk_by (N := ["rows", "place", "found", "lows", "highs", "low", "high", "row"]) (sc := defScope st_without) (own := [("row", 7)]) (by decide +kernel)) (fun _ _ _ _ _ => (d_gName (at_blk hu).nd rfl (by first | exact Or.inl rfl | exact Or.inr rfl) (by first | exact Or.inl rfl | exact Or.inr rfl))) (fun _ _ _ _ _ => (pts_one (d_tcmp (op_eqD (at_blk hu).un) psem_eq (d_val (d_idx (at_blk hu) (d_val (d_idx (at_blk hu) (d_loc (pv 7)) (d_val d_int))) (d_loc (pv 1)))) (d_val d_int) (nomark _)))) (fun _ _ _ _ _ => (d_var (pv 7))) (by decide))
      (d_scons (d_setComp (own := [("row", 7)]) hu rfl rfl (sw_true rfl rfl rfl (by decide +kernel)) (d_iAny (d_var (pv 0))) (blkOk_by (N := ["rows", "place", "found", "lows", "highs", "low", "high", "row"]) (sc := defScope st_without) (own := [("row", 7)]) (by decide +kernel)) (fun _ _ _ _ _ => (d_gName (at_blk hu).nd rfl (by first | exact Or.inl rfl | exact Or.inr rfl) (by first | exact Or.inl rfl | exact Or.inr rfl))) (fun _ _ _ _ _ => (pts_one (d_tcmp op_gtA psem_ord (d_val (d_idx (at_blk hu) (d_val (d_idx (at_blk hu) (d_loc (pv 7)) (d_val d_int))) (d_loc (pv 1)))) (d_val d_int) (nomark _)))) (fun _ _ _ _ _ => (d_var (pv 7))) (by decide))
      (d_scons (d_setComp (own := [("row", 7)]) hu rfl rfl (sw_true rfl rfl rfl (by decide +kernel)) (d_iAny (d_var (pv 0))) (blkOk_by (N := ["rows", "place", "found", "lows", "highs", "low", "high", "row"]) (sc := defScope st_without) (own := [("row", 7)]) (by decide +kernel)) (fun _ _ _ _ _ => (d_gName (at_blk hu).nd rfl (by first | exact Or.inl rfl | exact Or.inr rfl) (by first | exact Or.inl rfl | exact Or.inr rfl))) (fun _ _ _ _ _ => (pts_one (d_tcmp op_ltA psem_ord (d_val (d_idx (at_blk hu) (d_val (d_idx (at_blk hu) (d_loc (pv 7)) (d_val d_int))) (d_loc (pv 1)))) (d_val d_int) (nomark _)))) (fun _ _ _ _ _ => (d_var (pv 7))) (by decide))
      (d_scons (d_for hu (passes_of rfl) (d_iAny (d_var (pv 3))) (d_gName hu.nd rfl (by first | exact Or.inl rfl | exact Or.inr rfl) (by first | exact Or.inl rfl | exact Or.inr rfl)) (d_sone (d_for hu (passes_of rfl) (d_iAny (d_var (pv 4))) (d_gName hu.nd rfl (by first | exact Or.inl rfl | exact Or.inr rfl) (by first | exact Or.inl rfl | exact Or.inr rfl)) (d_sone (d_expr (d_mut PySem.F.slot_list_append PySem.F.type_list_append mt_append lmut_append (pv 2) (d_cons (d_callP hu C_summed (hr.mono (by omega)) rfl (d_cons (d_var (pv 5)) (d_cons (d_var (pv 6)) (d_cons (d_neg (d_val (d_idx hu (d_val (d_idx hu (d_loc (pv 6)) (d_val d_int))) (d_loc (pv 1))))) (d_cons (d_idx hu (d_val (d_idx hu (d_loc (pv 5)) (d_val d_int))) (d_loc (pv 1))) d_nil))))) d_nil)))))))
      (d_sone (d_ret (d_callP hu C_lean (hr.mono (by omega)) rfl (d_cons (d_var (pv 2)) d_nil))))))))
theorem w_stages (T : Tx K mg) (F : Fn K mg "stages" st_stages ["system", "weighed"]) (C_lean : Cal P w K mg base "lean" 2 (spP ⟨K, ex⟩ 1 (m_lean))) (C_without : Cal P w K mg base "without" 3 (spP ⟨K, ex⟩ 2 (m_without))) : Cal P w K mg base "stages" 4 (spP ⟨K, ex⟩ 2 m_stages) :=
  cal_P ex F sc_stages fun f cdv A outer s H E hr => by
    have hu := at_def (P := P) (w := w) (K := K) (mg := mg) (base := base) (f := f) (cdv := cdv) (A := A) (outer := outer) (s := s) (H := H) (E := E) sc_stages hr
    exact (d_scons (d_set hu rfl (by first | exact Or.inl rfl | exact Or.inr rfl) (d_callB call_lenA psem_len rfl T.n_len (d_bcons (d_val (d_idx hu (d_val (d_idx hu (d_loc (pv 0)) (d_val d_int))) (d_val d_int))) d_bnil)))
      (d_scons (d_setF hu rfl (by first | exact Or.inl rfl | exact Or.inr rfl) (d_lstF d_nil))
      (d_scons (d_for hu (passes_of rfl) (d_iEnumX rfl T.n_enumerate (d_cons (d_var (pv 0)) d_nil)) (d_gTup hu.calm (d_gC (d_gName hu.nd rfl (by first | exact Or.inl rfl | exact Or.inr rfl) (by first | exact Or.inl rfl | exact Or.inr rfl)) (d_gC (d_gTup hu.calm (d_gC (d_gName hu.nd rfl (by first | exact Or.inl rfl | exact Or.inr rfl) (by first | exact Or.inl rfl | exact Or.inr rfl)) (d_gC (d_gName hu.nd rfl (by first | exact Or.inl rfl | exact Or.inr rfl) (by first | exact Or.inl rfl | exact Or.inr rfl)) d_gN))) d_gN))) (d_scons (d_set hu rfl (by first | exact Or.inl rfl | exact Or.inr rfl) (d_callTy call_tupleZ psem_tuple rfl T.n_tuple (d_bcons (d_val (d_fz (d_compF (own := [("place", 5)]) hu (d_iRng1 rfl T.n_range (d_cons (d_callB call_lenA psem_len rfl T.n_len (d_bcons (d_loc (pv 0)) d_bnil)) d_nil)) (blkOk_by (N := ["system", "weighed", "many", "rows", "found", "place", "at", "weights", "strict", "form"]) (sc := defScope st_stages) (own := [("place", 5)]) (by decide +kernel)) (fun _ _ _ _ _ => (d_gName (at_blk hu).nd rfl (by first | exact Or.inl rfl | exact Or.inr rfl) (by first | exact Or.inl rfl | exact Or.inr rfl))) (fun _ _ _ _ _ => pts_nilT) (fun _ _ _ _ _ => (d_if (d_tcmp (op_eqD (at_blk hu).un) psem_eq (d_loc (pv 5)) (d_loc (pv 6)) (nomark _)) d_int d_int)) (by decide)))) d_bnil)))
      (d_sone (d_expr (d_mut PySem.F.slot_list_append PySem.F.type_list_append mt_append lmut_append (pv 3) (d_cons (d_tup (d_cons (d_var (pv 8)) (d_cons (d_var (pv 9)) (d_cons (d_if (d_tru (d_loc (pv 1))) (d_var (pv 7)) (d_tup d_nil)) d_nil)))) d_nil))))))
      (d_scons (d_setF hu rfl (by first | exact Or.inl rfl | exact Or.inr rfl) (d_lstF (d_cons (d_callP hu C_lean (hr.mono (by omega)) rfl (d_cons (d_var (pv 3)) d_nil)) d_nil)))
      (d_scons (d_for hu (passes_of rfl) (d_iRng3 rfl T.n_range (d_cons (d_sub (d_loc (pv 2)) (d_val d_int)) (d_cons (d_neg (d_val d_int)) (d_cons (d_neg (d_val d_int)) d_nil)))) (d_gName hu.nd rfl (by first | exact Or.inl rfl | exact Or.inr rfl) (by first | exact Or.inl rfl | exact Or.inr rfl)) (d_sone (d_expr (d_mut PySem.F.slot_list_append PySem.F.type_list_append mt_append lmut_append (pv 4) (d_cons (d_callP hu C_without (hr.mono (by omega)) rfl (d_cons (d_idx hu (d_loc (pv 4)) (d_val (d_neg (d_val d_int)))) (d_cons (d_var (pv 5)) d_nil))) d_nil)))))
      (d_sone (d_ret (d_var (pv 4)))))))))
theorem w_barred (T : Tx K mg) (F : Fn K mg "barred" st_barred ["rows"]) : Cal P w K mg base "barred" 1 (spP ⟨K, ex⟩ 1 m_barred) :=
  cal_P ex F sc_barred fun f cdv A outer s H E hr => by
    have hu := at_def (P := P) (w := w) (K := K) (mg := mg) (base := base) (f := f) (cdv := cdv) (A := A) (outer := outer) (s := s) (H := H) (E := E) sc_barred hr
    exact (d_scons (d_for hu (passes_of rfl) (d_iAny (d_var (pv 0))) (d_gTup hu.calm (d_gC (d_gName hu.nd rfl (by first | exact Or.inl rfl | exact Or.inr rfl) (by first | exact Or.inl rfl | exact Or.inr rfl)) (d_gC (d_gName hu.nd rfl (by first | exact Or.inl rfl | exact Or.inr rfl) (by first | exact Or.inl rfl | exact Or.inr rfl)) (d_gC (d_gName hu.nd rfl (by first | exact Or.inl rfl | exact Or.inr rfl) (by first | exact Or.inl rfl | exact Or.inr rfl)) d_gN)))) (d_sone (d_ifS (d_tru (d_loc (pv 1))) (d_sone (d_ret (d_var (pv 3)))) d_snil)))
      (d_sone (d_ret d_non)))
theorem w_nearest (T : Tx K mg) (F : Fn K mg "nearest" st_nearest ["lows", "highs"]) : Cal P w K mg base "nearest" 1 (spP ⟨K, ex⟩ 2 m_nearest) :=
  cal_P ex F sc_nearest fun f cdv A outer s H E hr => by
    have hu := at_def (P := P) (w := w) (K := K) (mg := mg) (base := base) (f := f) (cdv := cdv) (A := A) (outer := outer) (s := s) (H := H) (E := E) sc_nearest hr
    exact (d_scons (d_asg (d_tup (d_cons d_non (d_cons d_non d_nil))) (d_gTup hu.calm (d_gC (d_gName hu.nd rfl (by first | exact Or.inl rfl | exact Or.inr rfl) (by first | exact Or.inl rfl | exact Or.inr rfl)) (d_gC (d_gName hu.nd rfl (by first | exact Or.inl rfl | exact Or.inr rfl) (by first | exact Or.inl rfl | exact Or.inr rfl)) d_gN))))
      (d_scons (d_for hu (passes_of rfl) (d_iAny (d_var (pv 0))) (d_gTup hu.calm (d_gC (d_gName hu.nd rfl (by first | exact Or.inl rfl | exact Or.inr rfl) (by first | exact Or.inl rfl | exact Or.inr rfl)) (d_gC (d_gName hu.nd rfl (by first | exact Or.inl rfl | exact Or.inr rfl) (by first | exact Or.inl rfl | exact Or.inr rfl)) (d_gC (d_gName hu.nd rfl (by first | exact Or.inl rfl | exact Or.inr rfl) (by first | exact Or.inl rfl | exact Or.inr rfl)) d_gN)))) (d_sone (d_ifS (PW.pt (d_wor (d_tcmp op_isA psem_is (d_loc (pv 2)) (d_val d_non) (nomark _)) (d_wor1 (d_tcmp (op_gtD hu.un) psem_gtD (d_val (d_tup (d_cons (d_mul (d_loc (pv 4)) (d_val (d_idx hu (d_loc (pv 2)) (d_val d_int)))) (d_cons (d_var (pv 6)) d_nil)))) (d_val (d_tup (d_cons (d_mul (d_val (d_idx hu (d_loc (pv 2)) (d_val d_int))) (d_loc (pv 5))) (d_cons (d_idx hu (d_loc (pv 2)) (d_val d_int)) d_nil)))) (nomark _))))) (d_sone (d_set hu rfl (by first | exact Or.inl rfl | exact Or.inr rfl) (d_tup (d_cons (d_var (pv 4)) (d_cons (d_var (pv 5)) (d_cons (d_var (pv 6)) d_nil)))))) d_snil)))
      (d_scons (d_for hu (passes_of rfl) (d_iAny (d_var (pv 1))) (d_gTup hu.calm (d_gC (d_gName hu.nd rfl (by first | exact Or.inl rfl | exact Or.inr rfl) (by first | exact Or.inl rfl | exact Or.inr rfl)) (d_gC (d_gName hu.nd rfl (by first | exact Or.inl rfl | exact Or.inr rfl) (by first | exact Or.inl rfl | exact Or.inr rfl)) (d_gC (d_gName hu.nd rfl (by first | exact Or.inl rfl | exact Or.inr rfl) (by first | exact Or.inl rfl | exact Or.inr rfl)) d_gN)))) (d_sone (d_ifS (PW.pt (d_wor (d_tcmp op_isA psem_is (d_loc (pv 3)) (d_val d_non) (nomark _)) (d_wor1 (d_tcmp (op_ltD hu.un) psem_ltD (d_val (d_tup (d_cons (d_mul (d_loc (pv 4)) (d_val (d_idx hu (d_loc (pv 3)) (d_val d_int)))) (d_cons (d_not (d_loc (pv 6))) d_nil)))) (d_val (d_tup (d_cons (d_mul (d_val (d_idx hu (d_loc (pv 3)) (d_val d_int))) (d_loc (pv 5))) (d_cons (d_not (d_val (d_idx hu (d_loc (pv 3)) (d_val d_int)))) d_nil)))) (nomark _))))) (d_sone (d_set hu rfl (by first | exact Or.inl rfl | exact Or.inr rfl) (d_tup (d_cons (d_var (pv 4)) (d_cons (d_var (pv 5)) (d_cons (d_var (pv 6)) d_nil)))))) d_snil)))
      (d_scons (d_ifS (PW.pt (d_wand (d_tcmp op_isA psem_is (d_loc (pv 2)) (d_val d_non) (nomark _)) (d_wand1 (d_tcmp op_isA psem_is (d_loc (pv 3)) (d_val d_non) (nomark _))))) (d_sone (d_ret (d_tup (d_cons d_int (d_cons d_int d_nil))))) d_snil)
      (d_scons (d_ifS (d_tcmp op_isA psem_is (d_loc (pv 3)) (d_val d_non) (nomark _)) (d_sone (d_ret (d_tup (d_cons (d_add (d_val (d_idx hu (d_loc (pv 2)) (d_val d_int))) (d_val (d_if (d_tru (d_val (d_idx hu (d_loc (pv 2)) (d_val d_int)))) (d_idx hu (d_loc (pv 2)) (d_val d_int)) d_int))) (d_cons (d_idx hu (d_loc (pv 2)) (d_val d_int)) d_nil))))) d_snil)
      (d_scons (d_ifS (d_tcmp op_isA psem_is (d_loc (pv 2)) (d_val d_non) (nomark _)) (d_sone (d_ret (d_tup (d_cons (d_sub (d_val (d_idx hu (d_loc (pv 3)) (d_val d_int))) (d_val (d_if (d_tru (d_val (d_idx hu (d_loc (pv 3)) (d_val d_int)))) (d_idx hu (d_loc (pv 3)) (d_val d_int)) d_int))) (d_cons (d_idx hu (d_loc (pv 3)) (d_val d_int)) d_nil))))) d_snil)
      (d_scons (d_ifS (d_tnot (d_tru (d_val (d_idx hu (d_loc (pv 2)) (d_val d_int))))) (d_sone (d_ret (d_tup (d_cons (d_idx hu (d_loc (pv 2)) (d_val d_int)) (d_cons (d_idx hu (d_loc (pv 2)) (d_val d_int)) d_nil))))) d_snil)
      (d_sone (d_ret (d_if (d_tcmp (op_eqD hu.un) psem_eq (d_val (d_mul (d_val (d_idx hu (d_loc (pv 2)) (d_val d_int))) (d_val (d_idx hu (d_loc (pv 3)) (d_val d_int))))) (d_val (d_mul (d_val (d_idx hu (d_loc (pv 3)) (d_val d_int))) (d_val (d_idx hu (d_loc (pv 2)) (d_val d_int))))) (nomark _)) (d_tup (d_cons (d_idx hu (d_loc (pv 2)) (d_val d_int)) (d_cons (d_idx hu (d_loc (pv 2)) (d_val d_int)) d_nil))) (d_tup (d_cons (d_add (d_val (d_mul (d_val (d_idx hu (d_loc (pv 2)) (d_val d_int))) (d_val (d_idx hu (d_loc (pv 3)) (d_val d_int))))) (d_val (d_mul (d_val (d_idx hu (d_loc (pv 3)) (d_val d_int))) (d_val (d_idx hu (d_loc (pv 2)) (d_val d_int)))))) (d_cons (d_mul (d_val (d_mul (d_val d_int) (d_val (d_idx hu (d_loc (pv 2)) (d_val d_int))))) (d_val (d_idx hu (d_loc (pv 3)) (d_val d_int)))) d_nil)))))))))))))
theorem w_value_of (T : Tx K mg) (F : Fn K mg "value_of" st_value_of ["form", "numbers"]) : Cal P w K mg base "value_of" 1 (spP ⟨K, ex⟩ 2 m_value_of) :=
  cal_P ex F sc_value_of fun f cdv A outer s H E hr => by
    have hu := at_def (P := P) (w := w) (K := K) (mg := mg) (base := base) (f := f) (cdv := cdv) (A := A) (outer := outer) (s := s) (H := H) (E := E) sc_value_of hr
    exact (d_sone (d_ret (d_callB (cr_sum hu.calm) psem_sum rfl T.n_sum (d_bcons (d_val (d_fz (d_compF (own := [("factor", 2), ("number", 3)]) hu (d_iZipX rfl T.n_zip (d_cons (d_var (pv 0)) (d_cons (d_var (pv 1)) d_nil))) (blkOk_by (N := ["form", "numbers", "factor", "number"]) (sc := defScope st_value_of) (own := [("factor", 2), ("number", 3)]) (by decide +kernel)) (fun _ _ _ _ _ => (d_gTup (at_blk hu).calm (d_gC (d_gName (at_blk hu).nd rfl (by first | exact Or.inl rfl | exact Or.inr rfl) (by first | exact Or.inl rfl | exact Or.inr rfl)) (d_gC (d_gName (at_blk hu).nd rfl (by first | exact Or.inl rfl | exact Or.inr rfl) (by first | exact Or.inl rfl | exact Or.inr rfl)) d_gN)))) (fun _ _ _ _ _ => pts_nilT) (fun _ _ _ _ _ => (d_mul (d_loc (pv 2)) (d_loc (pv 3)))) (by decide)))) d_bnil))))
theorem w_found_in (T : Tx K mg) (F : Fn K mg "found_in" st_found_in ["system", "weighed"]) (C_stages : Cal P w K mg base "stages" 4 (spP ⟨K, ex⟩ 2 (m_stages))) (C_barred : Cal P w K mg base "barred" 1 (spP ⟨K, ex⟩ 1 (m_barred))) (C_nearest : Cal P w K mg base "nearest" 1 (spP ⟨K, ex⟩ 2 (m_nearest))) (C_value_of : Cal P w K mg base "value_of" 1 (spP ⟨K, ex⟩ 2 (m_value_of))) (C_divisor_of : Cal P w K mg base "divisor_of" 1 (spP ⟨K, ex⟩ 1 (m_divisor_of))) : Cal P w K mg base "found_in" 5 (spP ⟨K, ex⟩ 2 m_found_in) :=
  cal_P ex F sc_found_in fun f cdv A outer s H E hr => by
    have hu := at_def (P := P) (w := w) (K := K) (mg := mg) (base := base) (f := f) (cdv := cdv) (A := A) (outer := outer) (s := s) (H := H) (E := E) sc_found_in hr
    exact (d_scons (d_set hu rfl (by first | exact Or.inl rfl | exact Or.inr rfl) (d_callP hu C_stages (hr.mono (by omega)) rfl (d_cons (d_var (pv 0)) (d_cons (d_var (pv 1)) d_nil))))
      (d_scons (d_set hu rfl (by first | exact Or.inl rfl | exact Or.inr rfl) (d_callP hu C_barred (hr.mono (by omega)) rfl (d_cons (d_idx hu (d_loc (pv 2)) (d_val (d_neg (d_val d_int)))) d_nil)))
      (d_scons (d_ifS (d_tcmp op_isNotA psem_isNot (d_loc (pv 3)) (d_val d_non) (nomark _)) (d_sone (d_ret (d_tup (d_cons d_non (d_cons (d_var (pv 3)) d_nil))))) d_snil)
      (d_scons (d_set hu rfl (by first | exact Or.inl rfl | exact Or.inr rfl) (d_callB call_lenA psem_len rfl T.n_len (d_bcons (d_val (d_idx hu (d_val (d_idx hu (d_loc (pv 0)) (d_val d_int))) (d_val d_int))) d_bnil)))
      (d_scons (d_setF hu rfl (by first | exact Or.inl rfl | exact Or.inr rfl) (d_lstF d_nil))
      (d_scons (d_for hu (passes_of rfl) (d_iRng1 rfl T.n_range (d_cons (d_var (pv 4)) d_nil)) (d_gName hu.nd rfl (by first | exact Or.inl rfl | exact Or.inr rfl) (by first | exact Or.inl rfl | exact Or.inr rfl)) (d_scons (d_new2 hu rfl rfl (by decide) rfl rfl rfl)
      (d_scons (d_for hu (passes_of rfl) (d_iAny (d_idx hu (d_loc (pv 2)) (d_val (d_sub (d_val (d_sub (d_loc (pv 4)) (d_val d_int))) (d_loc (pv 6)))))) (d_gTup hu.calm (d_gC (d_gName hu.nd rfl (by first | exact Or.inl rfl | exact Or.inr rfl) (by first | exact Or.inl rfl | exact Or.inr rfl)) (d_gC (d_gName hu.nd rfl (by first | exact Or.inl rfl | exact Or.inr rfl) (by first | exact Or.inl rfl | exact Or.inr rfl)) (d_gC (d_gName hu.nd rfl (by first | exact Or.inl rfl | exact Or.inr rfl) (by first | exact Or.inl rfl | exact Or.inr rfl)) d_gN)))) (d_scons (d_set hu rfl (by first | exact Or.inl rfl | exact Or.inr rfl) (d_callP hu C_value_of (hr.mono (by omega)) rfl (d_cons (d_slice (d_loc (pv 11)) d_pn (d_pe (d_var (pv 6)))) (d_cons (d_var (pv 5)) d_nil))))
      (d_sone (d_ifS (d_tcmp op_gtA psem_ord (d_val (d_idx hu (d_loc (pv 11)) (d_loc (pv 6)))) (d_val d_int) (nomark _)) (d_sone (d_expr (d_mut PySem.F.slot_list_append PySem.F.type_list_append mt_append lmut_append (pv 8) (d_cons (d_tup (d_cons (d_neg (d_loc (pv 13))) (d_cons (d_idx hu (d_loc (pv 11)) (d_loc (pv 6))) (d_cons (d_var (pv 10)) d_nil)))) d_nil)))) (d_sone (d_ifS (d_tcmp op_ltA psem_ord (d_val (d_idx hu (d_loc (pv 11)) (d_loc (pv 6)))) (d_val d_int) (nomark _)) (d_sone (d_expr (d_mut PySem.F.slot_list_append PySem.F.type_list_append mt_append lmut_append (pv 9) (d_cons (d_tup (d_cons (d_var (pv 13)) (d_cons (d_neg (d_val (d_idx hu (d_loc (pv 11)) (d_loc (pv 6))))) (d_cons (d_var (pv 10)) d_nil)))) d_nil)))) d_snil))))))
      (d_scons (d_asg (d_callP hu C_nearest (hr.mono (by omega)) rfl (d_cons (d_var (pv 8)) (d_cons (d_var (pv 9)) d_nil))) (d_gTup hu.calm (d_gC (d_gName hu.nd rfl (by first | exact Or.inl rfl | exact Or.inr rfl) (by first | exact Or.inl rfl | exact Or.inr rfl)) (d_gC (d_gName hu.nd rfl (by first | exact Or.inl rfl | exact Or.inr rfl) (by first | exact Or.inl rfl | exact Or.inr rfl)) d_gN))))
      (d_scons (d_set hu rfl (by first | exact Or.inl rfl | exact Or.inr rfl) (d_callB (call_max2 hu.calm) psem_max2 rfl T.n_max (d_bcons (d_val d_int) (d_bcons (d_val (d_callP hu C_divisor_of (hr.mono (by omega)) rfl (d_cons (d_fz (d_lstF (d_cons (d_var (pv 14)) (d_cons (d_var (pv 15)) d_nil)))) d_nil))) d_bnil))))
      (d_scons (d_asg (d_tup (d_cons (d_div (d_loc (pv 14)) (d_loc (pv 7))) (d_cons (d_div (d_loc (pv 15)) (d_loc (pv 7))) d_nil))) (d_gTup hu.calm (d_gC (d_gName hu.nd rfl (by first | exact Or.inl rfl | exact Or.inr rfl) (by first | exact Or.inl rfl | exact Or.inr rfl)) (d_gC (d_gName hu.nd rfl (by first | exact Or.inl rfl | exact Or.inr rfl) (by first | exact Or.inl rfl | exact Or.inr rfl)) d_gN))))
      (d_sone (d_set hu rfl (by first | exact Or.inl rfl | exact Or.inr rfl) (d_add (d_val (d_fz (d_compF (own := [("number", 16)]) hu (d_iAny (d_var (pv 5))) (blkOk_by (N := ["system", "weighed", "steps", "weights", "many", "numbers", "place", "divisor", "lows", "highs", "strict", "form", "row_weights", "rest", "top", "bottom", "number"]) (sc := defScope st_found_in) (own := [("number", 16)]) (by decide +kernel)) (fun _ _ _ _ _ => (d_gName (at_blk hu).nd rfl (by first | exact Or.inl rfl | exact Or.inr rfl) (by first | exact Or.inl rfl | exact Or.inr rfl))) (fun _ _ _ _ _ => pts_nilT) (fun _ _ _ _ _ => (d_mul (d_loc (pv 15)) (d_loc (pv 16)))) (by decide)))) (d_val (d_fz (d_lstF (d_cons (d_var (pv 14)) d_nil)))))))))))))
      (d_sone (d_ret (d_tup (d_cons (d_callTy call_tupleZ psem_tuple rfl T.n_tuple (d_bcons (d_loc (pv 5)) d_bnil)) (d_cons d_non d_nil)))))))))))
theorem w_weights_for (T : Tx K mg) (F : Fn K mg "weights_for" st_weights_for ["system"]) (C_looked : Cal P w K mg base "looked" 4 (spP ⟨K, ex⟩ 1 (m_looked))) (C_found_in : Cal P w K mg base "found_in" 5 (spP ⟨K, ex⟩ 2 (m_found_in))) : Cal P w K mg base "weights_for" 6 (spP ⟨K, ex⟩ 1 m_weights_for) :=
  cal_P ex F sc_weights_for fun f cdv A outer s H E hr => by
    have hu := at_def (P := P) (w := w) (K := K) (mg := mg) (base := base) (f := f) (cdv := cdv) (A := A) (outer := outer) (s := s) (H := H) (E := E) sc_weights_for hr
    exact (d_scons (d_expr (d_callP hu C_looked (hr.mono (by omega)) rfl (d_cons (d_var (pv 0)) d_nil)))
      (d_sone (d_ret (d_idx hu (d_val (d_callP hu C_found_in (hr.mono (by omega)) rfl (d_cons (d_var (pv 0)) (d_cons d_bl d_nil)))) (d_val d_int)))))
theorem w_bars (T : Tx K mg) (F : Fn K mg "bars" st_bars ["system", "thing"]) (C_is_integer : Cal P w K mg base "is_integer" 1 (spP ⟨K, ex⟩ 1 (m_is_integer))) : Cal P w K mg base "bars" 2 (spP ⟨K, ex⟩ 2 m_bars) :=
  cal_P ex F sc_bars fun f cdv A outer s H E hr => by
    have hu := at_def (P := P) (w := w) (K := K) (mg := mg) (base := base) (f := f) (cdv := cdv) (A := A) (outer := outer) (s := s) (H := H) (E := E) sc_bars hr
    exact (d_scons (d_ifS (PW.pt (d_wor (d_tnot (d_tru (d_val (d_isi1 rfl T.n_isinstance (by decide) rfl T.n_tuple (d_loc (pv 1)))))) (d_wor1 (d_tcmp (op_neD hu.un) psem_ne (d_val (d_callB call_lenA psem_len rfl T.n_len (d_bcons (d_loc (pv 1)) d_bnil))) (d_val (d_callB call_lenA psem_len rfl T.n_len (d_bcons (d_loc (pv 0)) d_bnil))) (nomark _))))) (d_sone (d_ret d_bl)) d_snil)
      (d_scons (d_ifS (d_tnot (d_tru (d_val (d_callB (cr_all hu.calm) psem_all rfl T.n_all (d_bcons (d_val (d_fz (d_compF (own := [("part", 3)]) hu (d_iAny (d_var (pv 1))) (blkOk_by (N := ["system", "thing", "place", "part", "strict", "form"]) (sc := defScope st_bars) (own := [("part", 3)]) (by decide +kernel)) (fun _ _ _ _ _ => (d_gName (at_blk hu).nd rfl (by first | exact Or.inl rfl | exact Or.inr rfl) (by first | exact Or.inl rfl | exact Or.inr rfl))) (fun _ _ _ _ _ => pts_nilT) (fun _ _ _ _ _ => (d_and (d_callP (at_blk hu) C_is_integer (hr.mono (by omega)) rfl (d_cons (d_var (pv 3)) d_nil)) (d_one (d_cmp op_geA psem_ord (d_loc (pv 3)) (d_val d_int) (nomark _))))) (by decide)))) d_bnil))))) (d_sone (d_ret d_bl)) d_snil)
      (d_scons (d_ifS (d_tnot (d_tru (d_val (d_callB (cr_any hu.calm) psem_any rfl T.n_any (d_bcons (d_val (d_fz (d_compF (own := [("part", 3), ("strict", 4), ("form", 5)]) hu (d_iZipX rfl T.n_zip (d_cons (d_var (pv 0)) (d_cons (d_var (pv 1)) d_nil))) (blkOk_by (N := ["system", "thing", "place", "part", "strict", "form"]) (sc := defScope st_bars) (own := [("part", 3), ("strict", 4), ("form", 5)]) (by decide +kernel)) (fun _ _ _ _ _ => (d_gTup (at_blk hu).calm (d_gC (d_gTup (at_blk hu).calm (d_gC (d_gName (at_blk hu).nd rfl (by first | exact Or.inl rfl | exact Or.inr rfl) (by first | exact Or.inl rfl | exact Or.inr rfl)) (d_gC (d_gName (at_blk hu).nd rfl (by first | exact Or.inl rfl | exact Or.inr rfl) (by first | exact Or.inl rfl | exact Or.inr rfl)) d_gN))) (d_gC (d_gName (at_blk hu).nd rfl (by first | exact Or.inl rfl | exact Or.inr rfl) (by first | exact Or.inl rfl | exact Or.inr rfl)) d_gN)))) (fun _ _ _ _ _ => pts_nilT) (fun _ _ _ _ _ => (d_and (d_var (pv 4)) (d_one (d_cmp op_gtA psem_ord (d_loc (pv 3)) (d_val d_int) (nomark _))))) (by decide)))) d_bnil))))) (d_sone (d_ret d_bl)) d_snil)
      (d_scons (d_for hu (passes_of rfl) (d_iRng1 rfl T.n_range (d_cons (d_callB call_lenA psem_len rfl T.n_len (d_bcons (d_val (d_idx hu (d_val (d_idx hu (d_loc (pv 0)) (d_val d_int))) (d_val d_int))) d_bnil)) d_nil)) (d_gName hu.nd rfl (by first | exact Or.inl rfl | exact Or.inr rfl) (by first | exact Or.inl rfl | exact Or.inr rfl)) (d_sone (d_ifS (d_tcmp (op_neD hu.un) psem_ne (d_val (d_callB (cr_sum hu.calm) psem_sum rfl T.n_sum (d_bcons (d_val (d_fz (d_compF (own := [("part", 3), ("strict", 4), ("form", 5)]) hu (d_iZipX rfl T.n_zip (d_cons (d_var (pv 0)) (d_cons (d_var (pv 1)) d_nil))) (blkOk_by (N := ["system", "thing", "place", "part", "strict", "form"]) (sc := defScope st_bars) (own := [("part", 3), ("strict", 4), ("form", 5)]) (by decide +kernel)) (fun _ _ _ _ _ => (d_gTup (at_blk hu).calm (d_gC (d_gTup (at_blk hu).calm (d_gC (d_gName (at_blk hu).nd rfl (by first | exact Or.inl rfl | exact Or.inr rfl) (by first | exact Or.inl rfl | exact Or.inr rfl)) (d_gC (d_gName (at_blk hu).nd rfl (by first | exact Or.inl rfl | exact Or.inr rfl) (by first | exact Or.inl rfl | exact Or.inr rfl)) d_gN))) (d_gC (d_gName (at_blk hu).nd rfl (by first | exact Or.inl rfl | exact Or.inr rfl) (by first | exact Or.inl rfl | exact Or.inr rfl)) d_gN)))) (fun _ _ _ _ _ => pts_nilT) (fun _ _ _ _ _ => (d_mul (d_loc (pv 3)) (d_val (d_idx (at_blk hu) (d_loc (pv 5)) (d_loc (pv 2)))))) (by decide)))) d_bnil))) (d_val d_int) (nomark _)) (d_sone (d_ret d_bl)) d_snil)))
      (d_sone (d_ret d_bl))))))
theorem w_are_weights (T : Tx K mg) (F : Fn K mg "are_weights" st_are_weights ["system", "thing"]) (C_looked : Cal P w K mg base "looked" 4 (spP ⟨K, ex⟩ 1 (m_looked))) (C_bars : Cal P w K mg base "bars" 2 (spP ⟨K, ex⟩ 2 (m_bars))) : Cal P w K mg base "are_weights" 5 (spP ⟨K, ex⟩ 2 m_are_weights) :=
  cal_P ex F sc_are_weights fun f cdv A outer s H E hr => by
    have hu := at_def (P := P) (w := w) (K := K) (mg := mg) (base := base) (f := f) (cdv := cdv) (A := A) (outer := outer) (s := s) (H := H) (E := E) sc_are_weights hr
    exact (d_scons (d_expr (d_callP hu C_looked (hr.mono (by omega)) rfl (d_cons (d_var (pv 0)) d_nil)))
      (d_sone (d_ret (d_callP hu C_bars (hr.mono (by omega)) rfl (d_cons (d_var (pv 0)) (d_cons (d_var (pv 1)) d_nil))))))
theorem w_L_any (T : Tx K mg) (F : Fn K mg "_law_any" st_L_any ["_law_tape", "_law_deep"]) (C_L_draw : Cal P w K mg base "_law_draw" 1 (spI ⟨K, ex⟩ 2 (m_L_draw))) : ∀ n : Nat, Cal P w K mg base "_law_any" (1 + n + 1) (spI ⟨K, ex⟩ 2 (m_L_any n))
  | 0 => cal_I0 _ ex F sc_L_any
  | n + 1 => by
    have ih := w_L_any T F C_L_draw n
    exact cal_I ex F sc_L_any (by decide) fun f cdv A outer s H E hr => by
      have hu := at_def (P := P) (w := w) (K := K) (mg := mg) (base := base) (f := f) (cdv := cdv) (A := A) (outer := outer) (s := s) (H := H) (E := E) sc_L_any hr
      exact (d_scons (d_set hu rfl (by first | exact Or.inl rfl | exact Or.inr rfl) (d_callI hu C_L_draw (hr.mono (by omega)) rfl (pv 0) (d_cons d_int d_nil)))
      (d_scons (d_ifS (PW.pt (d_wand (d_tcmp op_ltA psem_ord (d_loc (pv 2)) (d_val d_int) (nomark _)) (d_wand1 (d_tcmp op_gtA psem_ord (d_loc (pv 1)) (d_val d_int) (nomark _))))) (d_scons (d_setComp (own := [("_law_k", 4)]) hu rfl rfl (sw_true rfl rfl rfl (by decide +kernel)) (d_iRng1 rfl T.n_range (d_cons (d_callI hu C_L_draw (hr.mono (by omega)) rfl (pv 0) (d_cons d_int d_nil)) d_nil)) (blkOk_by (N := ["_law_tape", "_law_deep", "_law_course", "_law_some", "_law_k"]) (sc := defScope st_L_any) (own := [("_law_k", 4)]) (by decide +kernel)) (fun _ _ _ _ _ => (d_gName (at_blk hu).nd rfl (by first | exact Or.inl rfl | exact Or.inr rfl) (by first | exact Or.inl rfl | exact Or.inr rfl))) (fun _ _ _ _ _ => pts_nilT) (fun _ _ _ _ _ => (d_callI (at_blk hu) ih hr rfl (pv 0) (d_cons (d_sub (d_loc (pv 1)) (d_val d_int)) d_nil))) (by decide))
      (d_sone (d_ret (d_idx hu (d_val (d_fz (d_lstF (d_cons (d_var (pv 3)) (d_cons (d_callTy call_tupleZ psem_tuple rfl T.n_tuple (d_bcons (d_loc (pv 3)) d_bnil)) (d_cons (d_callTy call_tupleZ psem_tuple rfl T.n_tuple (d_bcons (d_loc (pv 3)) d_bnil)) (d_cons (d_callTy call_tupleZ psem_tuple rfl T.n_tuple (d_bcons (d_loc (pv 3)) d_bnil)) d_nil))))))) (d_loc (pv 2)))))) d_snil)
      (d_scons (d_ifS (d_tcmp op_ltA psem_ord (d_loc (pv 2)) (d_val d_int) (nomark _)) (d_sone (d_ret (d_idx hu (d_val (d_fz (d_lstF (d_cons (d_sub (d_val (d_callI hu C_L_draw (hr.mono (by omega)) rfl (pv 0) (d_cons d_int d_nil))) (d_val d_int)) (d_cons (d_callI hu C_L_draw (hr.mono (by omega)) rfl (pv 0) (d_cons (d_pow (d_val d_int) (d_val d_int)) d_nil)) (d_cons d_int (d_cons d_int d_nil))))))) (d_val (d_callB (call_max2 hu.calm) psem_max2 rfl T.n_max (d_bcons (d_val d_int) (d_bcons (d_val (d_sub (d_loc (pv 2)) (d_val d_int))) d_bnil))))))) d_snil)
      (d_scons (d_setF hu rfl (by first | exact Or.inl rfl | exact Or.inr rfl) (d_lstF (d_cons d_str (d_cons d_str (d_cons d_str (d_cons d_str (d_cons d_str (d_cons d_str (d_cons d_str d_nil)))))))))
      (d_sone (d_ret (d_idx hu (d_val (d_fz (d_lstF (d_cons d_bl (d_cons d_bl (d_cons d_non (d_cons (d_idx hu (d_loc (pv 3)) (d_val (d_callI hu C_L_draw (hr.mono (by omega)) rfl (pv 0) (d_cons d_int d_nil)))) (d_cons (d_tup (d_cons d_int (d_cons d_int d_nil))) d_nil)))))))) (d_val (d_sub (d_loc (pv 2)) (d_val d_int))))))))))
theorem w_L_like (T : Tx K mg) (F : Fn K mg "_law_like" st_L_like ["_law_one", "_law_two"]) : ∀ n : Nat, Cal P w K mg base "_law_like" (0 + n + 1) (spP ⟨K, ex⟩ 2 (m_L_like n))
  | 0 => cal_P0 _ ex F sc_L_like
  | n + 1 => by
    have ih := w_L_like T F n
    exact cal_P ex F sc_L_like fun f cdv A outer s H E hr => by
      have hu := at_def (P := P) (w := w) (K := K) (mg := mg) (base := base) (f := f) (cdv := cdv) (A := A) (outer := outer) (s := s) (H := H) (E := E) sc_L_like hr
      exact (d_scons (d_ifS (d_tru (d_val (d_isi2 rfl T.n_isinstance (by decide) (by decide) rfl T.n_list rfl T.n_tuple (d_loc (pv 0))))) (d_scons (d_ifS (PW.pt (d_wor (d_tcmp (op_neD hu.un) psem_ne (d_val (d_isi1 rfl T.n_isinstance (by decide) rfl T.n_list (d_loc (pv 0)))) (d_val (d_isi1 rfl T.n_isinstance (by decide) rfl T.n_list (d_loc (pv 1)))) (nomark _)) (d_wor1 (d_tcmp (op_neD hu.un) psem_ne (d_val (d_isi1 rfl T.n_isinstance (by decide) rfl T.n_tuple (d_loc (pv 0)))) (d_val (d_isi1 rfl T.n_isinstance (by decide) rfl T.n_tuple (d_loc (pv 1)))) (nomark _))))) (d_sone (d_ret d_bl)) d_snil)
      (d_scons (d_ifS (d_tcmp (op_neD hu.un) psem_ne (d_val (d_callB call_lenA psem_len rfl T.n_len (d_bcons (d_loc (pv 0)) d_bnil))) (d_val (d_callB call_lenA psem_len rfl T.n_len (d_bcons (d_loc (pv 1)) d_bnil))) (nomark _)) (d_sone (d_ret d_bl)) d_snil)
      (d_sone (d_ret (d_cmp (op_eqD hu.un) psem_eq (d_val (d_fz (d_compF (own := [("_law_k", 2)]) hu (d_iRng1 rfl T.n_range (d_cons (d_callB call_lenA psem_len rfl T.n_len (d_bcons (d_loc (pv 0)) d_bnil)) d_nil)) (blkOk_by (N := ["_law_one", "_law_two", "_law_k"]) (sc := defScope st_L_like) (own := [("_law_k", 2)]) (by decide +kernel)) (fun _ _ _ _ _ => (d_gName (at_blk hu).nd rfl (by first | exact Or.inl rfl | exact Or.inr rfl) (by first | exact Or.inl rfl | exact Or.inr rfl))) (fun _ _ _ _ _ => (pts_one (d_tnot (d_tru (d_val (d_callP (at_blk hu) ih hr rfl (d_cons (d_idx (at_blk hu) (d_loc (pv 0)) (d_loc (pv 2))) (d_cons (d_idx (at_blk hu) (d_loc (pv 1)) (d_loc (pv 2))) d_nil)))))))) (fun _ _ _ _ _ => (d_var (pv 2))) (by decide)))) (d_val (d_fz (d_lstF d_nil))) (nomark _)))))) d_snil)
      (d_scons (d_ifS (d_tru (d_val (d_isi2 rfl T.n_isinstance (by decide) (by decide) rfl T.n_list rfl T.n_tuple (d_loc (pv 1))))) (d_sone (d_ret d_bl)) d_snil)
      (d_sone (d_ret (d_and (d_cmp (op_eqD hu.un) psem_eq (d_val (d_isi1 rfl T.n_isinstance (by decide) rfl T.n_bool (d_loc (pv 0)))) (d_val (d_isi1 rfl T.n_isinstance (by decide) rfl T.n_bool (d_loc (pv 1)))) (nomark _)) (d_one (d_cmp (op_eqD hu.un) psem_eq (d_loc (pv 0)) (d_loc (pv 1)) (nomark _))))))))
theorem w_L_whole (T : Tx K mg) (F : Fn K mg "_law_whole" st_L_whole ["_law_item"]) : Cal P w K mg base "_law_whole" 1 (spP ⟨K, ex⟩ 1 m_L_whole) :=
  cal_P ex F sc_L_whole fun f cdv A outer s H E hr => by
    have hu := at_def (P := P) (w := w) (K := K) (mg := mg) (base := base) (f := f) (cdv := cdv) (A := A) (outer := outer) (s := s) (H := H) (E := E) sc_L_whole hr
    exact (d_sone (d_ret (d_and (d_isi1 rfl T.n_isinstance (by decide) rfl T.n_int (d_loc (pv 0))) (d_one (d_not (d_val (d_isi1 rfl T.n_isinstance (by decide) rfl T.n_bool (d_loc (pv 0)))))))))
theorem w_L_spoilt (T : Tx K mg) (F : Fn K mg "_law_spoilt" st_L_spoilt ["_law_tape", "_law_item"]) (C_L_any : Cal P w K mg base "_law_any" 42 (spI ⟨K, ex⟩ 2 (m_L_any 40))) (C_L_draw : Cal P w K mg base "_law_draw" 1 (spI ⟨K, ex⟩ 2 (m_L_draw))) (C_L_whole : Cal P w K mg base "_law_whole" 1 (spP ⟨K, ex⟩ 1 (m_L_whole))) : ∀ n : Nat, Cal P w K mg base "_law_spoilt" (42 + n + 1) (spI ⟨K, ex⟩ 2 (m_L_spoilt n))
  | 0 => cal_I0 _ ex F sc_L_spoilt
  | n + 1 => by
    have ih := w_L_spoilt T F C_L_any C_L_draw C_L_whole n
    exact cal_I ex F sc_L_spoilt (by decide) fun f cdv A outer s H E hr => by
      have hu := at_def (P := P) (w := w) (K := K) (mg := mg) (base := base) (f := f) (cdv := cdv) (A := A) (outer := outer) (s := s) (H := H) (E := E) sc_L_spoilt hr
      exact (d_scons (d_ifS (PW.pt (d_wand (d_tru (d_val (d_isi2 rfl T.n_isinstance (by decide) (by decide) rfl T.n_tuple rfl T.n_list (d_loc (pv 1))))) (d_wand (d_tcmp op_gtA psem_ord (d_val (d_callB call_lenA psem_len rfl T.n_len (d_bcons (d_loc (pv 1)) d_bnil))) (d_val d_int) (nomark _)) (d_wand1 (d_tcmp op_gtA psem_ord (d_val (d_callI hu C_L_draw (hr.mono (by omega)) rfl (pv 0) (d_cons d_int d_nil))) (d_val d_int) (nomark _)))))) (d_scons (d_set hu rfl (by first | exact Or.inl rfl | exact Or.inr rfl) (d_callI hu C_L_draw (hr.mono (by omega)) rfl (pv 0) (d_cons (d_callB call_lenA psem_len rfl T.n_len (d_bcons (d_loc (pv 1)) d_bnil)) d_nil)))
      (d_scons (d_setF hu rfl (by first | exact Or.inl rfl | exact Or.inr rfl) (d_callTyF (call_listA hu.calm) fsem_list rfl T.n_list (d_bcons (d_loc (pv 1)) d_bnil)))
      (d_scons (d_set hu rfl (by first | exact Or.inl rfl | exact Or.inr rfl) (d_callI hu C_L_draw (hr.mono (by omega)) rfl (pv 0) (d_cons d_int d_nil)))
      (d_scons (d_ifS (d_tcmp op_ltA psem_ord (d_loc (pv 4)) (d_val d_int) (nomark _)) (d_sone (d_asg (d_callI hu ih hr rfl (pv 0) (d_cons (d_idx hu (d_loc (pv 3)) (d_loc (pv 2))) d_nil)) (d_gPut hu (pv 3) (d_loc (pv 2))))) (d_sone (d_ifS (d_tcmp (op_eqD hu.un) psem_eq (d_loc (pv 4)) (d_val d_int) (nomark _)) (d_sone (d_expr (d_mut PySem.F.slot_list_pop PySem.F.type_list_pop mt_popAt lmut_pop (pv 3) (d_cons (d_var (pv 2)) d_nil)))) (d_sone (d_ifS (d_tcmp (op_eqD hu.un) psem_eq (d_loc (pv 4)) (d_val d_int) (nomark _)) (d_sone (d_expr (d_mut PySem.F.slot_list_insert PySem.F.type_list_insert mt_insert lmut_insert (pv 3) (d_cons (d_var (pv 2)) (d_cons (d_idx hu (d_loc (pv 3)) (d_val (d_callI hu C_L_draw (hr.mono (by omega)) rfl (pv 0) (d_cons (d_callB call_lenA psem_len rfl T.n_len (d_bcons (d_loc (pv 3)) d_bnil)) d_nil)))) d_nil))))) (d_sone (d_ifS (d_tcmp (op_eqD hu.un) psem_eq (d_loc (pv 4)) (d_val d_int) (nomark _)) (d_sone (d_setF hu rfl (by first | exact Or.inl rfl | exact Or.inr rfl) (d_revF (d_loc (pv 3))))) (d_sone (d_expr (d_mut PySem.F.slot_list_insert PySem.F.type_list_insert mt_insert lmut_insert (pv 3) (d_cons (d_var (pv 2)) (d_cons (d_callI hu C_L_any (hr.mono (by omega)) rfl (pv 0) (d_cons d_int d_nil)) d_nil))))))))))))
      (d_sone (d_ret (d_if (d_tru (d_val (d_isi1 rfl T.n_isinstance (by decide) rfl T.n_tuple (d_loc (pv 1))))) (d_callTy call_tupleZ psem_tuple rfl T.n_tuple (d_bcons (d_loc (pv 3)) d_bnil)) (d_var (pv 3))))))))) d_snil)
      (d_scons (d_ifS (PW.pt (d_wand (d_tru (d_val (d_callP hu C_L_whole (hr.mono (by omega)) rfl (d_cons (d_var (pv 1)) d_nil)))) (d_wand1 (d_tcmp op_gtA psem_ord (d_val (d_callI hu C_L_draw (hr.mono (by omega)) rfl (pv 0) (d_cons d_int d_nil))) (d_val d_int) (nomark _))))) (d_sone (d_ret (d_add (d_loc (pv 1)) (d_val (d_idx hu (d_val (d_fz (d_lstF (d_cons d_int (d_cons (d_neg (d_val d_int)) (d_cons d_int (d_cons (d_neg (d_val d_int)) (d_cons d_int (d_cons d_int d_nil))))))))) (d_val (d_callI hu C_L_draw (hr.mono (by omega)) rfl (pv 0) (d_cons d_int d_nil)))))))) d_snil)
      (d_scons (d_ifS (PW.pt (d_wand (d_tru (d_val (d_isi1 rfl T.n_isinstance (by decide) rfl T.n_str (d_loc (pv 1))))) (d_wand1 (d_tcmp op_gtA psem_ord (d_val (d_callI hu C_L_draw (hr.mono (by omega)) rfl (pv 0) (d_cons d_int d_nil))) (d_val d_int) (nomark _))))) (d_scons (d_set hu rfl (by first | exact Or.inl rfl | exact Or.inr rfl) (d_callI hu C_L_draw (hr.mono (by omega)) rfl (pv 0) (d_cons (d_add (d_val (d_callB call_lenA psem_len rfl T.n_len (d_bcons (d_loc (pv 1)) d_bnil))) (d_val d_int)) d_nil)))
      (d_sone (d_ret (d_add (d_val (d_add (d_val (d_slice (d_loc (pv 1)) d_pn (d_pe (d_var (pv 5))))) (d_val (d_idx hu (d_val (d_fz (d_lstF (d_cons d_str (d_cons d_str (d_cons d_str (d_cons d_str (d_cons d_str (d_cons d_str d_nil))))))))) (d_val (d_callI hu C_L_draw (hr.mono (by omega)) rfl (pv 0) (d_cons d_int d_nil))))))) (d_val (d_slice (d_loc (pv 1)) (d_pe (d_var (pv 5))) d_pn)))))) d_snil)
      (d_scons (d_ifS (PW.pt (d_wand (d_tru (d_val (d_isi2 rfl T.n_isinstance (by decide) (by decide) rfl T.n_tuple rfl T.n_list (d_loc (pv 1))))) (d_wand1 (d_tcmp (op_eqD hu.un) psem_eq (d_val (d_callI hu C_L_draw (hr.mono (by omega)) rfl (pv 0) (d_cons d_int d_nil))) (d_val d_int) (nomark _))))) (d_sone (d_ret (d_if (d_tru (d_val (d_isi1 rfl T.n_isinstance (by decide) rfl T.n_tuple (d_loc (pv 1))))) (d_fz (d_callTyF (call_listA hu.calm) fsem_list rfl T.n_list (d_bcons (d_loc (pv 1)) d_bnil))) (d_callTy call_tupleZ psem_tuple rfl T.n_tuple (d_bcons (d_loc (pv 1)) d_bnil))))) d_snil)
      (d_sone (d_ret (d_callI hu C_L_any (hr.mono (by omega)) rfl (pv 0) (d_cons d_int d_nil))))))))
theorem w_L_bars (T : Tx K mg) (F : Fn K mg "_law_bars" st_L_bars ["_law_system_here", "_law_weights"]) : Cal P w K mg base "_law_bars" 1 (spP ⟨K, ex⟩ 2 m_L_bars) :=
  cal_P ex F sc_L_bars fun f cdv A outer s H E hr => by
    have hu := at_def (P := P) (w := w) (K := K) (mg := mg) (base := base) (f := f) (cdv := cdv) (A := A) (outer := outer) (s := s) (H := H) (E := E) sc_L_bars hr
    exact (d_scons (d_for hu (passes_of rfl) (d_iRng1 rfl T.n_range (d_cons (d_callB call_lenA psem_len rfl T.n_len (d_bcons (d_val (d_idx hu (d_val (d_idx hu (d_loc (pv 0)) (d_val d_int))) (d_val d_int))) d_bnil)) d_nil)) (d_gName hu.nd rfl (by first | exact Or.inl rfl | exact Or.inr rfl) (by first | exact Or.inl rfl | exact Or.inr rfl)) (d_sone (d_ifS (d_tcmp (op_neD hu.un) psem_ne (d_val (d_callB (cr_sum hu.calm) psem_sum rfl T.n_sum (d_bcons (d_val (d_fz (d_compF (own := [("_law_weight", 3), ("_law_row", 4)]) hu (d_iZipX rfl T.n_zip (d_cons (d_var (pv 1)) (d_cons (d_var (pv 0)) d_nil))) (blkOk_by (N := ["_law_system_here", "_law_weights", "_law_place", "_law_weight", "_law_row"]) (sc := defScope st_L_bars) (own := [("_law_weight", 3), ("_law_row", 4)]) (by decide +kernel)) (fun _ _ _ _ _ => (d_gTup (at_blk hu).calm (d_gC (d_gName (at_blk hu).nd rfl (by first | exact Or.inl rfl | exact Or.inr rfl) (by first | exact Or.inl rfl | exact Or.inr rfl)) (d_gC (d_gName (at_blk hu).nd rfl (by first | exact Or.inl rfl | exact Or.inr rfl) (by first | exact Or.inl rfl | exact Or.inr rfl)) d_gN)))) (fun _ _ _ _ _ => pts_nilT) (fun _ _ _ _ _ => (d_mul (d_loc (pv 3)) (d_val (d_idx (at_blk hu) (d_val (d_idx (at_blk hu) (d_loc (pv 4)) (d_val d_int))) (d_loc (pv 2)))))) (by decide)))) d_bnil))) (d_val d_int) (nomark _)) (d_sone (d_ret d_bl)) d_snil)))
      (d_sone (d_ret (d_cmp (op_neD hu.un) psem_ne (d_val (d_fz (d_compF (own := [("_law_weight", 3), ("_law_row", 4)]) hu (d_iZipX rfl T.n_zip (d_cons (d_var (pv 1)) (d_cons (d_var (pv 0)) d_nil))) (blkOk_by (N := ["_law_system_here", "_law_weights", "_law_place", "_law_weight", "_law_row"]) (sc := defScope st_L_bars) (own := [("_law_weight", 3), ("_law_row", 4)]) (by decide +kernel)) (fun _ _ _ _ _ => (d_gTup (at_blk hu).calm (d_gC (d_gName (at_blk hu).nd rfl (by first | exact Or.inl rfl | exact Or.inr rfl) (by first | exact Or.inl rfl | exact Or.inr rfl)) (d_gC (d_gName (at_blk hu).nd rfl (by first | exact Or.inl rfl | exact Or.inr rfl) (by first | exact Or.inl rfl | exact Or.inr rfl)) d_gN)))) (fun _ _ _ _ _ => (pts_one (PW.pt (d_wand (d_tcmp op_gtA psem_ord (d_loc (pv 3)) (d_val d_int) (nomark _)) (d_wand1 (d_tru (d_val (d_idx (at_blk hu) (d_loc (pv 4)) (d_val d_int))))))))) (fun _ _ _ _ _ => d_int) (by decide)))) (d_val (d_fz (d_lstF d_nil))) (nomark _)))))
theorem w_L_are_weights (T : Tx K mg) (F : Fn K mg "_law_are_weights" st_L_are_weights ["_law_system_here", "_law_thing"]) (C_L_bars : Cal P w K mg base "_law_bars" 1 (spP ⟨K, ex⟩ 2 (m_L_bars))) (C_L_whole : Cal P w K mg base "_law_whole" 1 (spP ⟨K, ex⟩ 1 (m_L_whole))) : Cal P w K mg base "_law_are_weights" 2 (spP ⟨K, ex⟩ 2 m_L_are_weights) :=
  cal_P ex F sc_L_are_weights fun f cdv A outer s H E hr => by
    have hu := at_def (P := P) (w := w) (K := K) (mg := mg) (base := base) (f := f) (cdv := cdv) (A := A) (outer := outer) (s := s) (H := H) (E := E) sc_L_are_weights hr
    exact (d_scons (d_ifS (PW.pt (d_wor (d_tnot (d_tru (d_val (d_isi1 rfl T.n_isinstance (by decide) rfl T.n_tuple (d_loc (pv 1)))))) (d_wor1 (d_tcmp (op_neD hu.un) psem_ne (d_val (d_callB call_lenA psem_len rfl T.n_len (d_bcons (d_loc (pv 1)) d_bnil))) (d_val (d_callB call_lenA psem_len rfl T.n_len (d_bcons (d_loc (pv 0)) d_bnil))) (nomark _))))) (d_sone (d_ret d_bl)) d_snil)
      (d_scons (d_ifS (d_tcmp (op_neD hu.un) psem_ne (d_val (d_fz (d_compF (own := [("_law_part", 2)]) hu (d_iAny (d_var (pv 1))) (blkOk_by (N := ["_law_system_here", "_law_thing", "_law_part"]) (sc := defScope st_L_are_weights) (own := [("_law_part", 2)]) (by decide +kernel)) (fun _ _ _ _ _ => (d_gName (at_blk hu).nd rfl (by first | exact Or.inl rfl | exact Or.inr rfl) (by first | exact Or.inl rfl | exact Or.inr rfl))) (fun _ _ _ _ _ => (pts_one (PW.pt (d_wor (d_tnot (d_tru (d_val (d_callP (at_blk hu) C_L_whole (hr.mono (by omega)) rfl (d_cons (d_var (pv 2)) d_nil))))) (d_wor1 (d_tcmp op_ltA psem_ord (d_loc (pv 2)) (d_val d_int) (nomark _))))))) (fun _ _ _ _ _ => (d_var (pv 2))) (by decide)))) (d_val (d_fz (d_lstF d_nil))) (nomark _)) (d_sone (d_ret d_bl)) d_snil)
      (d_sone (d_ret (d_callP hu C_L_bars (hr.mono (by omega)) rfl (d_cons (d_var (pv 0)) (d_cons (d_var (pv 1)) d_nil)))))))
theorem w_law (T : Tx K mg) {fa : Addr} {fd : FuncData} (F : Fun K "law" "law" st_law fa fd) (C_L_system : Cal P w K mg base "_law_system" 3 (spI ⟨K, ex⟩ 4 (m_L_system))) (C_L_of : Cal P w K mg base "_law_of" 2 (spI ⟨K, ex⟩ 2 (m_L_of))) (C_weights_for : Cal P w K mg base "weights_for" 6 (spP ⟨K, ex⟩ 1 (m_weights_for))) (C_are_weights : Cal P w K mg base "are_weights" 5 (spP ⟨K, ex⟩ 2 (m_are_weights))) (C_L_draw : Cal P w K mg base "_law_draw" 1 (spI ⟨K, ex⟩ 2 (m_L_draw))) (C_L_any : Cal P w K mg base "_law_any" 42 (spI ⟨K, ex⟩ 2 (m_L_any 40))) (C_L_like : Cal P w K mg base "_law_like" 41 (spP ⟨K, ex⟩ 2 (m_L_like 40))) (C_L_spoilt : Cal P w K mg base "_law_spoilt" 83 (spI ⟨K, ex⟩ 2 (m_L_spoilt 40))) (C_L_are_weights : Cal P w K mg base "_law_are_weights" 2 (spP ⟨K, ex⟩ 2 (m_L_are_weights))) : FnOk P w K mg base (L2.CX P w) 84 fa fd ["_law_script"] (spP ⟨K, ex⟩ 1 m_law) :=
  d_defP ex F sc_law fun cdv A outer s H E hr => by
    have hu := at_def (P := P) (w := w) (K := K) (mg := mg) (base := base) (f := fa) (cdv := cdv) (A := A) (outer := outer) (s := s) (H := H) (E := E) sc_law hr
    exact (d_scons (d_setF hu rfl (by first | exact Or.inl rfl | exact Or.inr rfl) (d_lstF (d_cons (d_fz (d_callTyF (call_listA hu.calm) fsem_list rfl T.n_list (d_bcons (d_loc (pv 0)) d_bnil))) (d_cons d_int (d_cons d_int d_nil)))))
      (d_scons (d_for hu (passes_of rfl) (d_iRng1 rfl T.n_range (d_cons d_int d_nil)) (d_gName hu.nd rfl (by first | exact Or.inl rfl | exact Or.inr rfl) (by first | exact Or.inl rfl | exact Or.inr rfl)) (d_scons (d_set hu rfl (by first | exact Or.inl rfl | exact Or.inr rfl) (d_add (d_val d_int) (d_val (d_callI hu C_L_draw (hr.mono (by omega)) rfl (pv 1) (d_cons d_int d_nil)))))
      (d_scons (d_set hu rfl (by first | exact Or.inl rfl | exact Or.inr rfl) (d_callI hu C_L_system (hr.mono (by omega)) rfl (pv 1) (d_cons (d_var (pv 3)) (d_cons d_int (d_cons d_int d_nil)))))
      (d_scons (d_set hu rfl (by first | exact Or.inl rfl | exact Or.inr rfl) (d_callI hu C_L_of (hr.mono (by omega)) rfl (pv 1) (d_cons (d_var (pv 4)) d_nil)))
      (d_scons (d_ifS (d_tcmp op_gtA psem_ord (d_val (d_callI hu C_L_draw (hr.mono (by omega)) rfl (pv 1) (d_cons d_int d_nil))) (d_val d_int) (nomark _)) (d_sone (d_set hu rfl (by first | exact Or.inl rfl | exact Or.inr rfl) (d_add (d_loc (pv 4)) (d_val (d_tup (d_cons (d_tup (d_cons (d_not (d_val (d_idx hu (d_loc (pv 5)) (d_val d_int)))) (d_cons (d_callTy call_tupleZ psem_tuple rfl T.n_tuple (d_bcons (d_val (d_fz (d_compF (own := [("_law_part", 10)]) hu (d_iAny (d_idx hu (d_loc (pv 5)) (d_val d_int))) (blkOk_by (N := ["_law_script", "_law_tape", "_law_turn", "_law_many", "_law_system_here", "_law_one", "_law_weights", "_law_things", "_law_thing", "_law_row", "_law_part"]) (sc := defScope st_law) (own := [("_law_part", 10)]) (by decide +kernel)) (fun _ _ _ _ _ => (d_gName (at_blk hu).nd rfl (by first | exact Or.inl rfl | exact Or.inr rfl) (by first | exact Or.inl rfl | exact Or.inr rfl))) (fun _ _ _ _ _ => pts_nilT) (fun _ _ _ _ _ => (d_sub (d_val d_int) (d_loc (pv 10)))) (by decide)))) d_bnil)) d_nil))) d_nil)))))) d_snil)
      (d_scons (d_set hu rfl (by first | exact Or.inl rfl | exact Or.inr rfl) (d_callP hu C_weights_for (hr.mono (by omega)) rfl (d_cons (d_var (pv 4)) d_nil)))
      (d_scons (d_setF hu rfl (by first | exact Or.inl rfl | exact Or.inr rfl) (d_lstF (d_cons (d_tup d_nil) (d_cons (d_mul (d_val (d_tup (d_cons d_int d_nil))) (d_val (d_callB call_lenA psem_len rfl T.n_len (d_bcons (d_loc (pv 4)) d_bnil)))) (d_cons (d_mul (d_val (d_tup (d_cons d_int d_nil))) (d_val (d_callB call_lenA psem_len rfl T.n_len (d_bcons (d_loc (pv 4)) d_bnil)))) (d_cons (d_callI hu C_L_any (hr.mono (by omega)) rfl (pv 1) (d_cons d_int d_nil)) (d_cons d_non d_nil)))))))
      (d_scons (d_expr (d_mut PySem.F.slot_list_append PySem.F.type_list_append mt_append lmut_append (pv 7) (d_cons (d_callTy call_tupleZ psem_tuple rfl T.n_tuple (d_bcons (d_val (d_fz (d_compF (own := [("_law_row", 9)]) hu (d_iAny (d_var (pv 4))) (blkOk_by (N := ["_law_script", "_law_tape", "_law_turn", "_law_many", "_law_system_here", "_law_one", "_law_weights", "_law_things", "_law_thing", "_law_row", "_law_part"]) (sc := defScope st_law) (own := [("_law_row", 9)]) (by decide +kernel)) (fun _ _ _ _ _ => (d_gName (at_blk hu).nd rfl (by first | exact Or.inl rfl | exact Or.inr rfl) (by first | exact Or.inl rfl | exact Or.inr rfl))) (fun _ _ _ _ _ => pts_nilT) (fun _ _ _ _ _ => (d_callI (at_blk hu) C_L_draw (hr.mono (by omega)) rfl (pv 1) (d_cons d_int d_nil))) (by decide)))) d_bnil)) d_nil)))
      (d_scons (d_ifS (d_tcmp op_isNotA psem_isNot (d_loc (pv 6)) (d_val d_non) (nomark _)) (d_scons (d_set hu rfl (by first | exact Or.inl rfl | exact Or.inr rfl) (d_add (d_loc (pv 7)) (d_val (d_fz (d_lstF (d_cons (d_var (pv 6)) (d_cons (d_callTy call_tupleZ psem_tuple rfl T.n_tuple (d_bcons (d_val (d_fz (d_compF (own := [("_law_part", 10)]) hu (d_iAny (d_var (pv 6))) (blkOk_by (N := ["_law_script", "_law_tape", "_law_turn", "_law_many", "_law_system_here", "_law_one", "_law_weights", "_law_things", "_law_thing", "_law_row", "_law_part"]) (sc := defScope st_law) (own := [("_law_part", 10)]) (by decide +kernel)) (fun _ _ _ _ _ => (d_gName (at_blk hu).nd rfl (by first | exact Or.inl rfl | exact Or.inr rfl) (by first | exact Or.inl rfl | exact Or.inr rfl))) (fun _ _ _ _ _ => pts_nilT) (fun _ _ _ _ _ => (d_mul (d_val d_int) (d_loc (pv 10)))) (by decide)))) d_bnil)) (d_cons (d_fz (d_callTyF (call_listA hu.calm) fsem_list rfl T.n_list (d_bcons (d_loc (pv 6)) d_bnil))) (d_cons (d_add (d_loc (pv 6)) (d_val (d_tup (d_cons d_int d_nil)))) d_nil)))))))))
      (d_scons (d_set hu rfl (by first | exact Or.inl rfl | exact Or.inr rfl) (d_add (d_loc (pv 7)) (d_val (d_fz (d_lstF (d_cons (d_callTy call_tupleZ psem_tuple rfl T.n_tuple (d_bcons (d_val (d_fz (d_compF (own := [("_law_part", 10)]) hu (d_iAny (d_var (pv 6))) (blkOk_by (N := ["_law_script", "_law_tape", "_law_turn", "_law_many", "_law_system_here", "_law_one", "_law_weights", "_law_things", "_law_thing", "_law_row", "_law_part"]) (sc := defScope st_law) (own := [("_law_part", 10)]) (by decide +kernel)) (fun _ _ _ _ _ => (d_gName (at_blk hu).nd rfl (by first | exact Or.inl rfl | exact Or.inr rfl) (by first | exact Or.inl rfl | exact Or.inr rfl))) (fun _ _ _ _ _ => pts_nilT) (fun _ _ _ _ _ => (d_sub (d_val d_int) (d_loc (pv 10)))) (by decide)))) d_bnil)) (d_cons (d_slice (d_loc (pv 6)) d_pn (d_pe (d_neg (d_val d_int)))) (d_cons (d_revE (d_loc (pv 6))) d_nil))))))))
      (d_scons (d_set hu rfl (by first | exact Or.inl rfl | exact Or.inr rfl) (d_add (d_loc (pv 7)) (d_val (d_fz (d_compF (own := [("_law_part", 10)]) hu (d_iRng1 rfl T.n_range (d_cons d_int d_nil)) (blkOk_by (N := ["_law_script", "_law_tape", "_law_turn", "_law_many", "_law_system_here", "_law_one", "_law_weights", "_law_things", "_law_thing", "_law_row", "_law_part"]) (sc := defScope st_law) (own := [("_law_part", 10)]) (by decide +kernel)) (fun _ _ _ _ _ => (d_gName (at_blk hu).nd rfl (by first | exact Or.inl rfl | exact Or.inr rfl) (by first | exact Or.inl rfl | exact Or.inr rfl))) (fun _ _ _ _ _ => pts_nilT) (fun _ _ _ _ _ => (d_callI (at_blk hu) C_L_spoilt (hr.mono (by omega)) rfl (pv 1) (d_cons (d_var (pv 6)) d_nil))) (by decide))))))
      (d_sone (d_ifS (d_tnot (d_tru (d_val (d_callP hu C_are_weights (hr.mono (by omega)) rfl (d_cons (d_var (pv 4)) (d_cons (d_var (pv 6)) d_nil)))))) (d_sone (d_ret d_bl)) d_snil))))) d_snil)
      (d_sone (d_for hu (passes_of rfl) (d_iAny (d_var (pv 7))) (d_gName hu.nd rfl (by first | exact Or.inl rfl | exact Or.inr rfl) (by first | exact Or.inl rfl | exact Or.inr rfl)) (d_sone (d_ifS (d_tnot (d_tru (d_val (d_callP hu C_L_like (hr.mono (by omega)) rfl (d_cons (d_callP hu C_are_weights (hr.mono (by omega)) rfl (d_cons (d_var (pv 4)) (d_cons (d_var (pv 8)) d_nil))) (d_cons (d_callP hu C_L_are_weights (hr.mono (by omega)) rfl (d_cons (d_var (pv 4)) (d_cons (d_var (pv 8)) d_nil))) d_nil)))))) (d_sone (d_ret d_bl)) d_snil)))))))))))))
      (d_sone (d_ret (d_cmp op_isA psem_is (d_val (d_callP hu C_are_weights (hr.mono (by omega)) rfl (d_cons (d_tup (d_cons (d_tup (d_cons d_bl (d_cons (d_tup (d_cons d_int d_nil)) d_nil))) (d_cons (d_tup (d_cons d_bl (d_cons (d_tup (d_cons (d_neg (d_val d_int)) d_nil)) d_nil))) d_nil))) (d_cons (d_tup (d_cons d_int (d_cons d_int d_nil))) d_nil)))) (d_val d_bl) (nomark _))))))
end
section
theorem all_mk {l : PySem.W.OpenLaw} {w : World} {K : PySem.W.Frag} {h : Heap} {mg : Str → Option Value} {fa : Addr} (X : K.In h) (G : h.Ns mainGlobals mg) (hfa : mg "law" = some (.ref fa))
    {f0 : Addr} {od0 an0 : Option Addr} {sl0 : Array (Option Value)} {oc0 kV0 dc0 pm0 cd0 ct0 : Value}
    {f1 : Addr} {od1 an1 : Option Addr} {sl1 : Array (Option Value)} {oc1 kV1 dc1 pm1 cd1 ct1 : Value}
    {f2 : Addr} {od2 an2 : Option Addr} {sl2 : Array (Option Value)} {oc2 kV2 dc2 pm2 cd2 ct2 : Value}
    {f3 : Addr} {od3 an3 : Option Addr} {sl3 : Array (Option Value)} {oc3 kV3 dc3 pm3 cd3 ct3 : Value}
    {f4 : Addr} {od4 an4 : Option Addr} {sl4 : Array (Option Value)} {oc4 kV4 dc4 pm4 cd4 ct4 : Value}
    {f5 : Addr} {od5 an5 : Option Addr} {sl5 : Array (Option Value)} {oc5 kV5 dc5 pm5 cd5 ct5 : Value}
    {f6 : Addr} {od6 an6 : Option Addr} {sl6 : Array (Option Value)} {oc6 kV6 dc6 pm6 cd6 ct6 : Value}
    {f7 : Addr} {od7 an7 : Option Addr} {sl7 : Array (Option Value)} {oc7 kV7 dc7 pm7 cd7 ct7 : Value}
    {f8 : Addr} {od8 an8 : Option Addr} {sl8 : Array (Option Value)} {oc8 kV8 dc8 pm8 cd8 ct8 : Value}
    {f9 : Addr} {od9 an9 : Option Addr} {sl9 : Array (Option Value)} {oc9 kV9 dc9 pm9 cd9 ct9 : Value}
    {f10 : Addr} {od10 an10 : Option Addr} {sl10 : Array (Option Value)} {oc10 kV10 dc10 pm10 cd10 ct10 : Value}
    {f11 : Addr} {od11 an11 : Option Addr} {sl11 : Array (Option Value)} {oc11 kV11 dc11 pm11 cd11 ct11 : Value}
    {f12 : Addr} {od12 an12 : Option Addr} {sl12 : Array (Option Value)} {oc12 kV12 dc12 pm12 cd12 ct12 : Value}
    {f13 : Addr} {od13 an13 : Option Addr} {sl13 : Array (Option Value)} {oc13 kV13 dc13 pm13 cd13 ct13 : Value}
    {f14 : Addr} {od14 an14 : Option Addr} {sl14 : Array (Option Value)} {oc14 kV14 dc14 pm14 cd14 ct14 : Value}
    {f15 : Addr} {od15 an15 : Option Addr} {sl15 : Array (Option Value)} {oc15 kV15 dc15 pm15 cd15 ct15 : Value}
    {f16 : Addr} {od16 an16 : Option Addr} {sl16 : Array (Option Value)} {oc16 kV16 dc16 pm16 cd16 ct16 : Value}
    {f17 : Addr} {od17 an17 : Option Addr} {sl17 : Array (Option Value)} {oc17 kV17 dc17 pm17 cd17 ct17 : Value}
    {f18 : Addr} {od18 an18 : Option Addr} {sl18 : Array (Option Value)} {oc18 kV18 dc18 pm18 cd18 ct18 : Value}
    {f19 : Addr} {od19 an19 : Option Addr} {sl19 : Array (Option Value)} {oc19 kV19 dc19 pm19 cd19 ct19 : Value}
    {f20 : Addr} {od20 an20 : Option Addr} {sl20 : Array (Option Value)} {oc20 kV20 dc20 pm20 cd20 ct20 : Value}
    {f21 : Addr} {od21 an21 : Option Addr} {sl21 : Array (Option Value)} {oc21 kV21 dc21 pm21 cd21 ct21 : Value}
    {f22 : Addr} {od22 an22 : Option Addr} {sl22 : Array (Option Value)} {oc22 kV22 dc22 pm22 cd22 ct22 : Value}
    {f23 : Addr} {od23 an23 : Option Addr} {sl23 : Array (Option Value)} {oc23 kV23 dc23 pm23 cd23 ct23 : Value}
    {f24 : Addr} {od24 an24 : Option Addr} {sl24 : Array (Option Value)} {oc24 kV24 dc24 pm24 cd24 ct24 : Value}
    {f25 : Addr} {od25 an25 : Option Addr} {sl25 : Array (Option Value)} {oc25 kV25 dc25 pm25 cd25 ct25 : Value}
    {f26 : Addr} {od26 an26 : Option Addr} {sl26 : Array (Option Value)} {oc26 kV26 dc26 pm26 cd26 ct26 : Value}
    {tk0 : Tok}
    {tk1 : Tok}
    (a0 : PySem.W.nsIn K mainGlobals "_law_draw" = some (some (.ref f0))) (l0 : K.lookup f0 = some ⟨oc0, od0, .func (PySem.W.fnOf "_law_draw" "_law_draw" (defArgs st_L_draw) (defBody st_L_draw) (defScope st_L_draw) .none kV0 dc0 pm0 an0 cd0 ct0), sl0⟩) (c0 : PySem.W.codeIn K cd0 "_law_draw" = true) (k0 : PySem.W.keepIn K (.ref f0) = true)
    (a1 : PySem.W.nsIn K mainGlobals "_law_near" = some (some (.ref f1))) (l1 : K.lookup f1 = some ⟨oc1, od1, .func (PySem.W.fnOf "_law_near" "_law_near" (defArgs st_L_near) (defBody st_L_near) (defScope st_L_near) .none kV1 dc1 pm1 an1 cd1 ct1), sl1⟩) (c1 : PySem.W.codeIn K cd1 "_law_near" = true) (k1 : PySem.W.keepIn K (.ref f1) = true)
    (a2 : PySem.W.nsIn K mainGlobals "_law_system" = some (some (.ref f2))) (l2 : K.lookup f2 = some ⟨oc2, od2, .func (PySem.W.fnOf "_law_system" "_law_system" (defArgs st_L_system) (defBody st_L_system) (defScope st_L_system) .none kV2 dc2 pm2 an2 cd2 ct2), sl2⟩) (c2 : PySem.W.codeIn K cd2 "_law_system" = true) (k2 : PySem.W.keepIn K (.ref f2) = true)
    (a3 : PySem.W.nsIn K mainGlobals "_law_of" = some (some (.ref f3))) (l3 : K.lookup f3 = some ⟨oc3, od3, .func (PySem.W.fnOf "_law_of" "_law_of" (defArgs st_L_of) (defBody st_L_of) (defScope st_L_of) .none kV3 dc3 pm3 an3 cd3 ct3), sl3⟩) (c3 : PySem.W.codeIn K cd3 "_law_of" = true) (k3 : PySem.W.keepIn K (.ref f3) = true)
    (a4 : PySem.W.nsIn K mainGlobals "is_integer" = some (some (.ref f4))) (l4 : K.lookup f4 = some ⟨oc4, od4, .func (PySem.W.fnOf "is_integer" "is_integer" (defArgs st_is_integer) (defBody st_is_integer) (defScope st_is_integer) .none kV4 dc4 pm4 an4 cd4 ct4), sl4⟩) (c4 : PySem.W.codeIn K cd4 "is_integer" = true) (k4 : PySem.W.keepIn K (.ref f4) = true)
    (a5 : PySem.W.nsIn K mainGlobals "is_row" = some (some (.ref f5))) (l5 : K.lookup f5 = some ⟨oc5, od5, .func (PySem.W.fnOf "is_row" "is_row" (defArgs st_is_row) (defBody st_is_row) (defScope st_is_row) .none kV5 dc5 pm5 an5 cd5 ct5), sl5⟩) (c5 : PySem.W.codeIn K cd5 "is_row" = true) (k5 : PySem.W.keepIn K (.ref f5) = true)
    (a6 : PySem.W.nsIn K mainGlobals "is_system" = some (some (.ref f6))) (l6 : K.lookup f6 = some ⟨oc6, od6, .func (PySem.W.fnOf "is_system" "is_system" (defArgs st_is_system) (defBody st_is_system) (defScope st_is_system) .none kV6 dc6 pm6 an6 cd6 ct6), sl6⟩) (c6 : PySem.W.codeIn K cd6 "is_system" = true) (k6 : PySem.W.keepIn K (.ref f6) = true)
    (a7 : PySem.W.nsIn K mainGlobals "looked" = some (some (.ref f7))) (l7 : K.lookup f7 = some ⟨oc7, od7, .func (PySem.W.fnOf "looked" "looked" (defArgs st_looked) (defBody st_looked) (defScope st_looked) .none kV7 dc7 pm7 an7 cd7 ct7), sl7⟩) (c7 : PySem.W.codeIn K cd7 "looked" = true) (k7 : PySem.W.keepIn K (.ref f7) = true)
    (a8 : PySem.W.nsIn K mainGlobals "divisor_of" = some (some (.ref f8))) (l8 : K.lookup f8 = some ⟨oc8, od8, .func (PySem.W.fnOf "divisor_of" "divisor_of" (defArgs st_divisor_of) (defBody st_divisor_of) (defScope st_divisor_of) .none kV8 dc8 pm8 an8 cd8 ct8), sl8⟩) (c8 : PySem.W.codeIn K cd8 "divisor_of" = true) (k8 : PySem.W.keepIn K (.ref f8) = true)
    (a9 : PySem.W.nsIn K mainGlobals "lean" = some (some (.ref f9))) (l9 : K.lookup f9 = some ⟨oc9, od9, .func (PySem.W.fnOf "lean" "lean" (defArgs st_lean) (defBody st_lean) (defScope st_lean) .none kV9 dc9 pm9 an9 cd9 ct9), sl9⟩) (c9 : PySem.W.codeIn K cd9 "lean" = true) (k9 : PySem.W.keepIn K (.ref f9) = true)
    (a10 : PySem.W.nsIn K mainGlobals "summed" = some (some (.ref f10))) (l10 : K.lookup f10 = some ⟨oc10, od10, .func (PySem.W.fnOf "summed" "summed" (defArgs st_summed) (defBody st_summed) (defScope st_summed) .none kV10 dc10 pm10 an10 cd10 ct10), sl10⟩) (c10 : PySem.W.codeIn K cd10 "summed" = true) (k10 : PySem.W.keepIn K (.ref f10) = true)
    (a11 : PySem.W.nsIn K mainGlobals "without" = some (some (.ref f11))) (l11 : K.lookup f11 = some ⟨oc11, od11, .func (PySem.W.fnOf "without" "without" (defArgs st_without) (defBody st_without) (defScope st_without) .none kV11 dc11 pm11 an11 cd11 ct11), sl11⟩) (c11 : PySem.W.codeIn K cd11 "without" = true) (k11 : PySem.W.keepIn K (.ref f11) = true)
    (a12 : PySem.W.nsIn K mainGlobals "stages" = some (some (.ref f12))) (l12 : K.lookup f12 = some ⟨oc12, od12, .func (PySem.W.fnOf "stages" "stages" (defArgs st_stages) (defBody st_stages) (defScope st_stages) .none kV12 dc12 pm12 an12 cd12 ct12), sl12⟩) (c12 : PySem.W.codeIn K cd12 "stages" = true) (k12 : PySem.W.keepIn K (.ref f12) = true)
    (a13 : PySem.W.nsIn K mainGlobals "barred" = some (some (.ref f13))) (l13 : K.lookup f13 = some ⟨oc13, od13, .func (PySem.W.fnOf "barred" "barred" (defArgs st_barred) (defBody st_barred) (defScope st_barred) .none kV13 dc13 pm13 an13 cd13 ct13), sl13⟩) (c13 : PySem.W.codeIn K cd13 "barred" = true) (k13 : PySem.W.keepIn K (.ref f13) = true)
    (a14 : PySem.W.nsIn K mainGlobals "nearest" = some (some (.ref f14))) (l14 : K.lookup f14 = some ⟨oc14, od14, .func (PySem.W.fnOf "nearest" "nearest" (defArgs st_nearest) (defBody st_nearest) (defScope st_nearest) .none kV14 dc14 pm14 an14 cd14 ct14), sl14⟩) (c14 : PySem.W.codeIn K cd14 "nearest" = true) (k14 : PySem.W.keepIn K (.ref f14) = true)
    (a15 : PySem.W.nsIn K mainGlobals "value_of" = some (some (.ref f15))) (l15 : K.lookup f15 = some ⟨oc15, od15, .func (PySem.W.fnOf "value_of" "value_of" (defArgs st_value_of) (defBody st_value_of) (defScope st_value_of) .none kV15 dc15 pm15 an15 cd15 ct15), sl15⟩) (c15 : PySem.W.codeIn K cd15 "value_of" = true) (k15 : PySem.W.keepIn K (.ref f15) = true)
    (a16 : PySem.W.nsIn K mainGlobals "found_in" = some (some (.ref f16))) (l16 : K.lookup f16 = some ⟨oc16, od16, .func (PySem.W.fnOf "found_in" "found_in" (defArgs st_found_in) (defBody st_found_in) (defScope st_found_in) .none kV16 dc16 pm16 an16 cd16 ct16), sl16⟩) (c16 : PySem.W.codeIn K cd16 "found_in" = true) (k16 : PySem.W.keepIn K (.ref f16) = true)
    (a17 : PySem.W.nsIn K mainGlobals "weights_for" = some (some (.ref f17))) (l17 : K.lookup f17 = some ⟨oc17, od17, .func (PySem.W.fnOf "weights_for" "weights_for" (defArgs st_weights_for) (defBody st_weights_for) (defScope st_weights_for) .none kV17 dc17 pm17 an17 cd17 ct17), sl17⟩) (c17 : PySem.W.codeIn K cd17 "weights_for" = true) (k17 : PySem.W.keepIn K (.ref f17) = true)
    (a18 : PySem.W.nsIn K mainGlobals "bars" = some (some (.ref f18))) (l18 : K.lookup f18 = some ⟨oc18, od18, .func (PySem.W.fnOf "bars" "bars" (defArgs st_bars) (defBody st_bars) (defScope st_bars) .none kV18 dc18 pm18 an18 cd18 ct18), sl18⟩) (c18 : PySem.W.codeIn K cd18 "bars" = true) (k18 : PySem.W.keepIn K (.ref f18) = true)
    (a19 : PySem.W.nsIn K mainGlobals "are_weights" = some (some (.ref f19))) (l19 : K.lookup f19 = some ⟨oc19, od19, .func (PySem.W.fnOf "are_weights" "are_weights" (defArgs st_are_weights) (defBody st_are_weights) (defScope st_are_weights) .none kV19 dc19 pm19 an19 cd19 ct19), sl19⟩) (c19 : PySem.W.codeIn K cd19 "are_weights" = true) (k19 : PySem.W.keepIn K (.ref f19) = true)
    (a20 : PySem.W.nsIn K mainGlobals "_law_any" = some (some (.ref f20))) (l20 : K.lookup f20 = some ⟨oc20, od20, .func (PySem.W.fnOf "_law_any" "_law_any" (defArgs st_L_any) (defBody st_L_any) (defScope st_L_any) .none kV20 dc20 pm20 an20 cd20 ct20), sl20⟩) (c20 : PySem.W.codeIn K cd20 "_law_any" = true) (k20 : PySem.W.keepIn K (.ref f20) = true)
    (a21 : PySem.W.nsIn K mainGlobals "_law_like" = some (some (.ref f21))) (l21 : K.lookup f21 = some ⟨oc21, od21, .func (PySem.W.fnOf "_law_like" "_law_like" (defArgs st_L_like) (defBody st_L_like) (defScope st_L_like) .none kV21 dc21 pm21 an21 cd21 ct21), sl21⟩) (c21 : PySem.W.codeIn K cd21 "_law_like" = true) (k21 : PySem.W.keepIn K (.ref f21) = true)
    (a22 : PySem.W.nsIn K mainGlobals "_law_whole" = some (some (.ref f22))) (l22 : K.lookup f22 = some ⟨oc22, od22, .func (PySem.W.fnOf "_law_whole" "_law_whole" (defArgs st_L_whole) (defBody st_L_whole) (defScope st_L_whole) .none kV22 dc22 pm22 an22 cd22 ct22), sl22⟩) (c22 : PySem.W.codeIn K cd22 "_law_whole" = true) (k22 : PySem.W.keepIn K (.ref f22) = true)
    (a23 : PySem.W.nsIn K mainGlobals "_law_spoilt" = some (some (.ref f23))) (l23 : K.lookup f23 = some ⟨oc23, od23, .func (PySem.W.fnOf "_law_spoilt" "_law_spoilt" (defArgs st_L_spoilt) (defBody st_L_spoilt) (defScope st_L_spoilt) .none kV23 dc23 pm23 an23 cd23 ct23), sl23⟩) (c23 : PySem.W.codeIn K cd23 "_law_spoilt" = true) (k23 : PySem.W.keepIn K (.ref f23) = true)
    (a24 : PySem.W.nsIn K mainGlobals "_law_bars" = some (some (.ref f24))) (l24 : K.lookup f24 = some ⟨oc24, od24, .func (PySem.W.fnOf "_law_bars" "_law_bars" (defArgs st_L_bars) (defBody st_L_bars) (defScope st_L_bars) .none kV24 dc24 pm24 an24 cd24 ct24), sl24⟩) (c24 : PySem.W.codeIn K cd24 "_law_bars" = true) (k24 : PySem.W.keepIn K (.ref f24) = true)
    (a25 : PySem.W.nsIn K mainGlobals "_law_are_weights" = some (some (.ref f25))) (l25 : K.lookup f25 = some ⟨oc25, od25, .func (PySem.W.fnOf "_law_are_weights" "_law_are_weights" (defArgs st_L_are_weights) (defBody st_L_are_weights) (defScope st_L_are_weights) .none kV25 dc25 pm25 an25 cd25 ct25), sl25⟩) (c25 : PySem.W.codeIn K cd25 "_law_are_weights" = true) (k25 : PySem.W.keepIn K (.ref f25) = true)
    (a26 : PySem.W.nsIn K mainGlobals "law" = some (some (.ref f26))) (l26 : K.lookup f26 = some ⟨oc26, od26, .func (PySem.W.fnOf "law" "law" (defArgs st_law) (defBody st_law) (defScope st_law) .none kV26 dc26 pm26 an26 cd26 ct26), sl26⟩) (c26 : PySem.W.codeIn K cd26 "law" = true) (k26 : PySem.W.keepIn K (.ref f26) = true)
    (z0 : PySem.W.nsIn K mainGlobals "abs" = some none)
    (z1 : PySem.W.nsIn K mainGlobals "all" = some none)
    (z2 : PySem.W.nsIn K mainGlobals "any" = some none)
    (z3 : PySem.W.nsIn K mainGlobals "bool" = some none)
    (z4 : PySem.W.nsIn K mainGlobals "enumerate" = some none)
    (z5 : PySem.W.nsIn K mainGlobals "int" = some none)
    (z6 : PySem.W.nsIn K mainGlobals "isinstance" = some none)
    (z7 : PySem.W.nsIn K mainGlobals "len" = some none)
    (z8 : PySem.W.nsIn K mainGlobals "list" = some none)
    (z9 : PySem.W.nsIn K mainGlobals "max" = some none)
    (z10 : PySem.W.nsIn K mainGlobals "range" = some none)
    (z11 : PySem.W.nsIn K mainGlobals "str" = some none)
    (z12 : PySem.W.nsIn K mainGlobals "sum" = some none)
    (z13 : PySem.W.nsIn K mainGlobals "tuple" = some none)
    (z14 : PySem.W.nsIn K mainGlobals "zip" = some none)
    (y0 : PySem.W.nsIn K mainGlobals "MOST_PLACES" = some (some (.int 4 tk0)))
    (y1 : PySem.W.nsIn K mainGlobals "MOST_ROWS" = some (some (.int 24 tk1)))
    : ∃ fd : FuncData, (∀ (s : Shared) (v : Value), BindsTo s fd ⟨[v], []⟩ [("_law_script", v)]) ∧ ∀ base : Heap, K.In base → base.Ns mainGlobals mg → FnOk l.prog w K mg base (L2.CX l.prog w) 84 fa fd ["_law_script"] (spP ⟨K, fun _ => 0⟩ 1 m_law) := by
  have e := hfa.symm.trans (PySem.W.mg_of X G a26)
  cases e
  have T : Tx K mg := ⟨PySem.W.mg_none_of X G z0, PySem.W.mg_none_of X G z1, PySem.W.mg_none_of X G z2, PySem.W.mg_none_of X G z3, PySem.W.mg_none_of X G z4, PySem.W.mg_none_of X G z5, PySem.W.mg_none_of X G z6, PySem.W.mg_none_of X G z7, PySem.W.mg_none_of X G z8, PySem.W.mg_none_of X G z9, PySem.W.mg_none_of X G z10, PySem.W.mg_none_of X G z11, PySem.W.mg_none_of X G z12, PySem.W.mg_none_of X G z13, PySem.W.mg_none_of X G z14, ⟨_, PySem.W.mg_of X G y0, ⟨_, rfl⟩⟩, ⟨_, PySem.W.mg_of X G y1, ⟨_, rfl⟩⟩⟩
  have F0 := fun_mk (st := st_L_draw) l0 c0 k0
  have N0 : Fn K mg "_law_draw" st_L_draw ["_law_tape", "_law_many"] := ⟨_, _, F0, PySem.W.mg_of X G a0, F0.binds (ps := ["_law_tape", "_law_many"]) fun _ _ _ _ _ _ us hl => match us, hl with | [_, _], _ => rfl⟩
  have F1 := fun_mk (st := st_L_near) l1 c1 k1
  have N1 : Fn K mg "_law_near" st_L_near ["_law_tape", "_law_wide"] := ⟨_, _, F1, PySem.W.mg_of X G a1, F1.binds (ps := ["_law_tape", "_law_wide"]) fun _ _ _ _ _ _ us hl => match us, hl with | [_, _], _ => rfl⟩
  have F2 := fun_mk (st := st_L_system) l2 c2 k2
  have N2 : Fn K mg "_law_system" st_L_system ["_law_tape", "_law_many", "_law_limit", "_law_wide"] := ⟨_, _, F2, PySem.W.mg_of X G a2, F2.binds (ps := ["_law_tape", "_law_many", "_law_limit", "_law_wide"]) fun _ _ _ _ _ _ us hl => match us, hl with | [_, _, _, _], _ => rfl⟩
  have F3 := fun_mk (st := st_L_of) l3 c3 k3
  have N3 : Fn K mg "_law_of" st_L_of ["_law_tape", "_law_some"] := ⟨_, _, F3, PySem.W.mg_of X G a3, F3.binds (ps := ["_law_tape", "_law_some"]) fun _ _ _ _ _ _ us hl => match us, hl with | [_, _], _ => rfl⟩
  have F4 := fun_mk (st := st_is_integer) l4 c4 k4
  have N4 : Fn K mg "is_integer" st_is_integer ["thing"] := ⟨_, _, F4, PySem.W.mg_of X G a4, F4.binds (ps := ["thing"]) fun _ _ _ _ _ _ us hl => match us, hl with | [_], _ => rfl⟩
  have F5 := fun_mk (st := st_is_row) l5 c5 k5
  have N5 : Fn K mg "is_row" st_is_row ["thing", "many"] := ⟨_, _, F5, PySem.W.mg_of X G a5, F5.binds (ps := ["thing", "many"]) fun _ _ _ _ _ _ us hl => match us, hl with | [_, _], _ => rfl⟩
  have F6 := fun_mk (st := st_is_system) l6 c6 k6
  have N6 : Fn K mg "is_system" st_is_system ["thing"] := ⟨_, _, F6, PySem.W.mg_of X G a6, F6.binds (ps := ["thing"]) fun _ _ _ _ _ _ us hl => match us, hl with | [_], _ => rfl⟩
  have F7 := fun_mk (st := st_looked) l7 c7 k7
  have N7 : Fn K mg "looked" st_looked ["system"] := ⟨_, _, F7, PySem.W.mg_of X G a7, F7.binds (ps := ["system"]) fun _ _ _ _ _ _ us hl => match us, hl with | [_], _ => rfl⟩
  have F8 := fun_mk (st := st_divisor_of) l8 c8 k8
  have N8 : Fn K mg "divisor_of" st_divisor_of ["numbers"] := ⟨_, _, F8, PySem.W.mg_of X G a8, F8.binds (ps := ["numbers"]) fun _ _ _ _ _ _ us hl => match us, hl with | [_], _ => rfl⟩
  have F9 := fun_mk (st := st_lean) l9 c9 k9
  have N9 : Fn K mg "lean" st_lean ["rows"] := ⟨_, _, F9, PySem.W.mg_of X G a9, F9.binds (ps := ["rows"]) fun _ _ _ _ _ _ us hl => match us, hl with | [_], _ => rfl⟩
  have F10 := fun_mk (st := st_summed) l10 c10 k10
  have N10 : Fn K mg "summed" st_summed ["low", "high", "more", "times"] := ⟨_, _, F10, PySem.W.mg_of X G a10, F10.binds (ps := ["low", "high", "more", "times"]) fun _ _ _ _ _ _ us hl => match us, hl with | [_, _, _, _], _ => rfl⟩
  have F11 := fun_mk (st := st_without) l11 c11 k11
  have N11 : Fn K mg "without" st_without ["rows", "place"] := ⟨_, _, F11, PySem.W.mg_of X G a11, F11.binds (ps := ["rows", "place"]) fun _ _ _ _ _ _ us hl => match us, hl with | [_, _], _ => rfl⟩
  have F12 := fun_mk (st := st_stages) l12 c12 k12
  have N12 : Fn K mg "stages" st_stages ["system", "weighed"] := ⟨_, _, F12, PySem.W.mg_of X G a12, F12.binds (ps := ["system", "weighed"]) fun _ _ _ _ _ _ us hl => match us, hl with | [_, _], _ => rfl⟩
  have F13 := fun_mk (st := st_barred) l13 c13 k13
  have N13 : Fn K mg "barred" st_barred ["rows"] := ⟨_, _, F13, PySem.W.mg_of X G a13, F13.binds (ps := ["rows"]) fun _ _ _ _ _ _ us hl => match us, hl with | [_], _ => rfl⟩
  have F14 := fun_mk (st := st_nearest) l14 c14 k14
  have N14 : Fn K mg "nearest" st_nearest ["lows", "highs"] := ⟨_, _, F14, PySem.W.mg_of X G a14, F14.binds (ps := ["lows", "highs"]) fun _ _ _ _ _ _ us hl => match us, hl with | [_, _], _ => rfl⟩
  have F15 := fun_mk (st := st_value_of) l15 c15 k15
  have N15 : Fn K mg "value_of" st_value_of ["form", "numbers"] := ⟨_, _, F15, PySem.W.mg_of X G a15, F15.binds (ps := ["form", "numbers"]) fun _ _ _ _ _ _ us hl => match us, hl with | [_, _], _ => rfl⟩
  have F16 := fun_mk (st := st_found_in) l16 c16 k16
  have N16 : Fn K mg "found_in" st_found_in ["system", "weighed"] := ⟨_, _, F16, PySem.W.mg_of X G a16, F16.binds (ps := ["system", "weighed"]) fun _ _ _ _ _ _ us hl => match us, hl with | [_, _], _ => rfl⟩
  have F17 := fun_mk (st := st_weights_for) l17 c17 k17
  have N17 : Fn K mg "weights_for" st_weights_for ["system"] := ⟨_, _, F17, PySem.W.mg_of X G a17, F17.binds (ps := ["system"]) fun _ _ _ _ _ _ us hl => match us, hl with | [_], _ => rfl⟩
  have F18 := fun_mk (st := st_bars) l18 c18 k18
  have N18 : Fn K mg "bars" st_bars ["system", "thing"] := ⟨_, _, F18, PySem.W.mg_of X G a18, F18.binds (ps := ["system", "thing"]) fun _ _ _ _ _ _ us hl => match us, hl with | [_, _], _ => rfl⟩
  have F19 := fun_mk (st := st_are_weights) l19 c19 k19
  have N19 : Fn K mg "are_weights" st_are_weights ["system", "thing"] := ⟨_, _, F19, PySem.W.mg_of X G a19, F19.binds (ps := ["system", "thing"]) fun _ _ _ _ _ _ us hl => match us, hl with | [_, _], _ => rfl⟩
  have F20 := fun_mk (st := st_L_any) l20 c20 k20
  have N20 : Fn K mg "_law_any" st_L_any ["_law_tape", "_law_deep"] := ⟨_, _, F20, PySem.W.mg_of X G a20, F20.binds (ps := ["_law_tape", "_law_deep"]) fun _ _ _ _ _ _ us hl => match us, hl with | [_, _], _ => rfl⟩
  have F21 := fun_mk (st := st_L_like) l21 c21 k21
  have N21 : Fn K mg "_law_like" st_L_like ["_law_one", "_law_two"] := ⟨_, _, F21, PySem.W.mg_of X G a21, F21.binds (ps := ["_law_one", "_law_two"]) fun _ _ _ _ _ _ us hl => match us, hl with | [_, _], _ => rfl⟩
  have F22 := fun_mk (st := st_L_whole) l22 c22 k22
  have N22 : Fn K mg "_law_whole" st_L_whole ["_law_item"] := ⟨_, _, F22, PySem.W.mg_of X G a22, F22.binds (ps := ["_law_item"]) fun _ _ _ _ _ _ us hl => match us, hl with | [_], _ => rfl⟩
  have F23 := fun_mk (st := st_L_spoilt) l23 c23 k23
  have N23 : Fn K mg "_law_spoilt" st_L_spoilt ["_law_tape", "_law_item"] := ⟨_, _, F23, PySem.W.mg_of X G a23, F23.binds (ps := ["_law_tape", "_law_item"]) fun _ _ _ _ _ _ us hl => match us, hl with | [_, _], _ => rfl⟩
  have F24 := fun_mk (st := st_L_bars) l24 c24 k24
  have N24 : Fn K mg "_law_bars" st_L_bars ["_law_system_here", "_law_weights"] := ⟨_, _, F24, PySem.W.mg_of X G a24, F24.binds (ps := ["_law_system_here", "_law_weights"]) fun _ _ _ _ _ _ us hl => match us, hl with | [_, _], _ => rfl⟩
  have F25 := fun_mk (st := st_L_are_weights) l25 c25 k25
  have N25 : Fn K mg "_law_are_weights" st_L_are_weights ["_law_system_here", "_law_thing"] := ⟨_, _, F25, PySem.W.mg_of X G a25, F25.binds (ps := ["_law_system_here", "_law_thing"]) fun _ _ _ _ _ _ us hl => match us, hl with | [_, _], _ => rfl⟩
  have F26 := fun_mk (st := st_law) l26 c26 k26
  have N26 : Fn K mg "law" st_law ["_law_script"] := ⟨_, _, F26, PySem.W.mg_of X G a26, F26.binds (ps := ["_law_script"]) fun _ _ _ _ _ _ us hl => match us, hl with | [_], _ => rfl⟩
  refine ⟨PySem.W.fnOf "law" "law" (defArgs st_law) (defBody st_law) (defScope st_law) .none kV26 dc26 pm26 an26 cd26 ct26, fun s v => .of_eq rfl, fun base _ _ => ?_⟩
  have C_L_draw := w_L_draw (P := l.prog) (w := w) (base := base) (ex := fun _ => 0) T N0
  have C_L_near := w_L_near (P := l.prog) (w := w) (base := base) (ex := fun _ => 0) T N1 C_L_draw
  have C_L_system := w_L_system (P := l.prog) (w := w) (base := base) (ex := fun _ => 0) T N2 C_L_draw C_L_near
  have C_L_of := w_L_of (P := l.prog) (w := w) (base := base) (ex := fun _ => 0) T N3 C_L_draw
  have C_is_integer := w_is_integer (P := l.prog) (w := w) (base := base) (ex := fun _ => 0) T N4
  have C_is_row := w_is_row (P := l.prog) (w := w) (base := base) (ex := fun _ => 0) T N5 C_is_integer
  have C_is_system := w_is_system (P := l.prog) (w := w) (base := base) (ex := fun _ => 0) T N6 C_is_row
  have C_looked := w_looked (P := l.prog) (w := w) (base := base) (ex := fun _ => 0) T N7 C_is_system
  have C_divisor_of := w_divisor_of (P := l.prog) (w := w) (base := base) (ex := fun _ => 0) T N8
  have C_lean := w_lean (P := l.prog) (w := w) (base := base) (ex := fun _ => 0) T N9 C_divisor_of
  have C_summed := w_summed (P := l.prog) (w := w) (base := base) (ex := fun _ => 0) T N10
  have C_without := w_without (P := l.prog) (w := w) (base := base) (ex := fun _ => 0) T N11 C_lean C_summed
  have C_stages := w_stages (P := l.prog) (w := w) (base := base) (ex := fun _ => 0) T N12 C_lean C_without
  have C_barred := w_barred (P := l.prog) (w := w) (base := base) (ex := fun _ => 0) T N13
  have C_nearest := w_nearest (P := l.prog) (w := w) (base := base) (ex := fun _ => 0) T N14
  have C_value_of := w_value_of (P := l.prog) (w := w) (base := base) (ex := fun _ => 0) T N15
  have C_found_in := w_found_in (P := l.prog) (w := w) (base := base) (ex := fun _ => 0) T N16 C_stages C_barred C_nearest C_value_of C_divisor_of
  have C_weights_for := w_weights_for (P := l.prog) (w := w) (base := base) (ex := fun _ => 0) T N17 C_looked C_found_in
  have C_bars := w_bars (P := l.prog) (w := w) (base := base) (ex := fun _ => 0) T N18 C_is_integer
  have C_are_weights := w_are_weights (P := l.prog) (w := w) (base := base) (ex := fun _ => 0) T N19 C_looked C_bars
  have C_L_any := w_L_any (P := l.prog) (w := w) (base := base) (ex := fun _ => 0) T N20 C_L_draw 40
  have C_L_like := w_L_like (P := l.prog) (w := w) (base := base) (ex := fun _ => 0) T N21 40
  have C_L_whole := w_L_whole (P := l.prog) (w := w) (base := base) (ex := fun _ => 0) T N22
  have C_L_spoilt := w_L_spoilt (P := l.prog) (w := w) (base := base) (ex := fun _ => 0) T N23 C_L_any C_L_draw C_L_whole 40
  have C_L_bars := w_L_bars (P := l.prog) (w := w) (base := base) (ex := fun _ => 0) T N24
  have C_L_are_weights := w_L_are_weights (P := l.prog) (w := w) (base := base) (ex := fun _ => 0) T N25 C_L_bars C_L_whole
  exact w_law (P := l.prog) (w := w) (base := base) (ex := fun _ => 0) T F26 C_L_system C_L_of C_weights_for C_are_weights C_L_draw C_L_any C_L_like C_L_spoilt C_L_are_weights
theorem walk {l : PySem.W.OpenLaw} {q : Program} {loose : List Str} {XP : (Str → Option Value) → Heap → Prop} {YP : World → Heap → Prop} {d : DefRec} {K : Params → PySem.W.Frag} (hn : l.most = some 63) (hdf : d.params.defaults = [])
    (hY : ∀ (w : World) (h : Heap), YP w h → (K w.params).In h)
    (F : ∀ (w : World) (mg : Str → Option Value) (fa : Addr) (h : Heap), (K w.params).In h → h.Ns mainGlobals mg → mg d.name = some (.ref fa) →
      ∃ fd : FuncData, (∀ (s : Shared) (u : Value), BindsTo s fd ⟨[u], []⟩ [("_law_script", u)]) ∧ ∀ base : Heap, (K w.params).In base → base.Ns mainGlobals mg → FnOk l.prog w (K w.params) mg base (L2.CX l.prog w) 84 fa fd ["_law_script"] (spP ⟨K w.params, fun _ => 0⟩ 1 m_law))
    (plain : ∀ ns : List Int, ns.length ≤ 63 → (∀ z ∈ ns, Builtin.Int.intBits z ≤ 1048576) → ∃ o, m_law [.scr ns] = .ok (.bl true) o) :
    PySem.W.WalkO q loose XP YP l.row.toRowW d [] (fun f vs => PySem.call f vs) :=
  L2.walk_ofB (n := 63) (k := 84) (x := "_law_script") (CX := fun w => L2.CX l.prog w) (sp := fun w => spP ⟨K w.params, fun _ => 0⟩ 1 m_law) hn (by decide) hdf ⟨rfl, by decide, by decide⟩ hY F (fun w H a ns hl hb hO hS => by
    obtain ⟨o, e⟩ := plain ns hl hb
    refine ⟨[.scr ns], H, fun _ => none, rfl, ⟨FLe.refl _, (fun a o e => nomatch e), fun _ _ _ => rfl⟩, .cons (.scr hS) .nil, ?_⟩
    rw [e]
    intro v H' F' _ _ rp
    cases rp
    rfl) fun w H s e s' z => by
    obtain ⟨_, _, _, _, _, _, _, _, _, _, _, _, z⟩ := z
    exact z
end
end
end Lw

/-! Data of bounded width and depth, without dicts. -/
namespace Dt
open PySem
def Ok (m : Nat) : Nat → D → Prop
  | _, .non => True
  | _, .bl _ => True
  | _, .int _ => True
  | _, .str s => s.length ≤ m ∧ ∀ c ∈ s.cps.toList, c < 128
  | n + 1, .tup ds => ds.length ≤ m ∧ ∀ d ∈ ds, Ok m n d
  | n + 1, .lst ds => ds.length ≤ m ∧ ∀ d ∈ ds, Ok m n d
  | _, _ => False
@[simp] theorem ok_non {m n : Nat} : Ok m n .non := by cases n <;> trivial
@[simp] theorem ok_bl {m n : Nat} {b : Bool} : Ok m n (.bl b) := by cases n <;> trivial
@[simp] theorem ok_int {m n : Nat} {i : Int} : Ok m n (.int i) := by cases n <;> trivial
theorem ok_str {m n : Nat} {s : Str} : Ok m n (.str s) ↔ s.length ≤ m ∧ ∀ c ∈ s.cps.toList, c < 128 := by cases n <;> exact Iff.rfl
theorem ok_tup {m n : Nat} {ds : List D} : Ok m (n + 1) (.tup ds) ↔ ds.length ≤ m ∧ ∀ d ∈ ds, Ok m n d := Iff.rfl
theorem ok_lst {m n : Nat} {ds : List D} : Ok m (n + 1) (.lst ds) ↔ ds.length ≤ m ∧ ∀ d ∈ ds, Ok m n d := Iff.rfl
theorem Ok.mono {m m' : Nat} (hm : m ≤ m') : ∀ {n n' : Nat} {d : D}, n ≤ n' → Ok m n d → Ok m' n' d := by
  intro n
  induction n with
  | zero =>
    intro n' d hn h
    cases d with
    | non => simp
    | bl _ => simp
    | int _ => simp
    | str s => rw [ok_str] at h ⊢; exact ⟨Nat.le_trans h.1 hm, h.2⟩
    | _ => exact h.elim
  | succ n ih =>
    intro n' d hn h
    cases d with
    | non => simp
    | bl _ => simp
    | int _ => simp
    | str s => rw [ok_str] at h ⊢; exact ⟨Nat.le_trans h.1 hm, h.2⟩
    | tup ds =>
      cases n' with
      | zero => omega
      | succ n' => exact ⟨Nat.le_trans h.1 hm, fun d hd => ih (by omega) (h.2 d hd)⟩
    | lst ds =>
      cases n' with
      | zero => omega
      | succ n' => exact ⟨Nat.le_trans h.1 hm, fun d hd => ih (by omega) (h.2 d hd)⟩
    | _ => exact h.elim

mutual
def D.toP : D → PyData
  | .non => .none
  | .bl b => .bool b
  | .int i => .int i
  | .str s => .str s
  | .tup ds => .tuple (D.toPs ds)
  | .lst ds => .list (D.toPs ds)
  | .dct _ _ => .none
  | .scr _ => .none
  | .arg _ => .none
  | .fn _ => .none
  | .nd _ _ => .none
def D.toPs : List D → List PyData
  | [] => []
  | d :: ds => D.toP d :: D.toPs ds
end
theorem pys_of {ds : List D} (h : ∀ d ∈ ds, d.py = some d.toP) : D.pys ds = some (D.toPs ds) := by
  induction ds with
  | nil => simp [D.pys, D.toPs]
  | cons d ds ih =>
    rw [D.pys, h d List.mem_cons_self, ih fun d hd => h d (List.mem_cons_of_mem _ hd), D.toPs]
    rfl
theorem layAll_of {ds : List D} (h : ∀ d ∈ ds, d.toP.canLay0 = true) : PyData.canLayAll0 (D.toPs ds) = true := by
  induction ds with
  | nil => simp [D.toPs, PyData.canLayAll0]
  | cons d ds ih =>
    rw [D.toPs, PyData.canLayAll0, h d List.mem_cons_self, ih fun d hd => h d (List.mem_cons_of_mem _ hd)]
    rfl
theorem depthAll_of {ds : List D} {n : Nat} (h : ∀ d ∈ ds, d.toP.depth ≤ n) : PyData.depthAll (D.toPs ds) ≤ n := by
  induction ds with
  | nil => simp [D.toPs, PyData.depthAll]
  | cons d ds ih =>
    rw [D.toPs, PyData.depthAll]
    exact Nat.max_le.mpr ⟨h d List.mem_cons_self, ih fun d hd => h d (List.mem_cons_of_mem _ hd)⟩
theorem Ok.py {m : Nat} : ∀ {n : Nat} {d : D}, Ok m n d → d.py = some d.toP ∧ d.toP.canLay0 = true ∧ d.toP.depth ≤ n := by
  have str : ∀ {s : Str} {n : Nat}, (s.length ≤ m ∧ ∀ c ∈ s.cps.toList, c < 128) → (D.str s).py = some (D.str s).toP ∧ (D.str s).toP.canLay0 = true ∧ (D.str s).toP.depth ≤ n := fun {s n} h => by
    refine ⟨by simp [D.py, D.toP], ?_, by simp [D.toP, PyData.depth]⟩
    simp only [D.toP, PyData.canLay0, PyData.strOk]
    rw [Array.all_eq_true_iff_forall_mem]
    intro c hc
    have := h.2 c (by simpa using hc)
    exact decide_eq_true (by omega)
  intro n
  induction n with
  | zero =>
    intro d h
    cases d with
    | non => simp [D.py, D.toP, PyData.canLay0, PyData.depth]
    | bl _ => simp [D.py, D.toP, PyData.canLay0, PyData.depth]
    | int _ => simp [D.py, D.toP, PyData.canLay0, PyData.depth]
    | str s => exact str (ok_str.mp h)
    | _ => exact h.elim
  | succ n ih =>
    intro d h
    cases d with
    | non => simp [D.py, D.toP, PyData.canLay0, PyData.depth]
    | bl _ => simp [D.py, D.toP, PyData.canLay0, PyData.depth]
    | int _ => simp [D.py, D.toP, PyData.canLay0, PyData.depth]
    | str s => exact str (ok_str.mp h)
    | tup ds =>
      have q := fun d hd => ih (h.2 d hd)
      refine ⟨?_, ?_, ?_⟩
      · rw [D.py, pys_of fun d hd => (q d hd).1, D.toP]; rfl
      · rw [D.toP, PyData.canLay0]; exact layAll_of fun d hd => (q d hd).2.1
      · rw [D.toP, PyData.depth]; exact Nat.succ_le_succ (depthAll_of fun d hd => (q d hd).2.2)
    | lst ds =>
      have q := fun d hd => ih (h.2 d hd)
      refine ⟨?_, ?_, ?_⟩
      · rw [D.py, pys_of fun d hd => (q d hd).1, D.toP]; rfl
      · rw [D.toP, PyData.canLay0]; exact layAll_of fun d hd => (q d hd).2.1
      · rw [D.toP, PyData.depth]; exact Nat.succ_le_succ (depthAll_of fun d hd => (q d hd).2.2)
    | _ => exact h.elim
theorem Ok.shaped {m n : Nat} {d : D} (h : Ok m n d) (hn : n ≤ 64) : SeqAt.shaped d.toP = true := by
  unfold SeqAt.shaped
  rw [h.py.2.1, Bool.true_and]
  exact decide_eq_true (Nat.le_trans h.py.2.2 hn)
def D.eqv (a b : D) : Bool := PyData.eqv a.toP b.toP
theorem eqD_ok {m n m' n' : Nat} {a b : D} (ha : Ok m n a) (hb : Ok m' n' b) (hn : n ≤ 64) (hn' : n' ≤ 64) : eqD a b = some (a.eqv b) := by
  unfold eqD
  rw [ha.py.1, hb.py.1]
  simp only [Option.bind_some]
  rw [ha.shaped hn, hb.shaped hn']
  rfl
theorem eqv_lst_nil (ds : List D) : (D.lst ds).eqv (.lst []) = ds.isEmpty := by
  cases ds <;> simp [D.eqv, D.toP, D.toPs, PyData.eqv, PyData.eqvAll]
@[simp] theorem eqv_bl (a b : Bool) : (D.bl a).eqv (.bl b) = (a == b) := by simp [D.eqv, D.toP, PyData.eqv]
@[simp] theorem eqv_int (a b : Int) : (D.int a).eqv (.int b) = (a == b) := by simp [D.eqv, D.toP, PyData.eqv]
@[simp] theorem eqD_int (a b : Int) : eqD (.int a) (.int b) = some (a == b) := by rw [eqD_ok (m := 0) (n := 0) (m' := 0) (n' := 0) ok_int ok_int (by omega) (by omega), eqv_int]
@[simp] theorem eqD_bl (a b : Bool) : eqD (.bl a) (.bl b) = some (a == b) := by rw [eqD_ok (m := 0) (n := 0) (m' := 0) (n' := 0) ok_bl ok_bl (by omega) (by omega), eqv_bl]
theorem eqv_self : ∀ (n : Nat) {m : Nat} {d : D}, Ok m n d → d.eqv d = true
  | n, m, .non, _ => by simp [D.eqv, D.toP, PyData.eqv]
  | n, m, .bl b, _ => by simp
  | n, m, .int i, _ => by simp
  | n, m, .str s, _ => by simp [D.eqv, D.toP, PyData.eqv]
  | n + 1, m, .tup ds, h => by
    have go : ∀ es : List D, (∀ d ∈ es, Ok m n d) → PyData.eqvAll (D.toPs es) (D.toPs es) = true := fun es => by
      induction es with
      | nil => intro _; simp [D.toPs, PyData.eqvAll]
      | cons e es ih =>
        intro h
        have h1 : PyData.eqv e.toP e.toP = true := eqv_self n (h e (.head _))
        rw [D.toPs, PyData.eqvAll, h1, ih fun d hd => h d (.tail _ hd)]
        rfl
    show PyData.eqv (.tuple (D.toPs ds)) (.tuple (D.toPs ds)) = true
    rw [PyData.eqv]
    exact go ds h.2
  | n + 1, m, .lst ds, h => by
    have go : ∀ es : List D, (∀ d ∈ es, Ok m n d) → PyData.eqvAll (D.toPs es) (D.toPs es) = true := fun es => by
      induction es with
      | nil => intro _; simp [D.toPs, PyData.eqvAll]
      | cons e es ih =>
        intro h
        have h1 : PyData.eqv e.toP e.toP = true := eqv_self n (h e (.head _))
        rw [D.toPs, PyData.eqvAll, h1, ih fun d hd => h d (.tail _ hd)]
        rfl
    show PyData.eqv (.list (D.toPs ds)) (.list (D.toPs ds)) = true
    rw [PyData.eqv]
    exact go ds h.2
  | 0, m, .tup _, h => h.elim
  | 0, m, .lst _, h => h.elim
  | 0, m, .dct _ _, h => h.elim
  | 0, m, .scr _, h => h.elim
  | 0, m, .arg _, h => h.elim
  | 0, m, .fn _, h => h.elim
  | 0, m, .nd _ _, h => h.elim
  | _ + 1, m, .dct _ _, h => h.elim
  | _ + 1, m, .scr _, h => h.elim
  | _ + 1, m, .arg _, h => h.elim
  | _ + 1, m, .fn _, h => h.elim
  | _ + 1, m, .nd _ _, h => h.elim
theorem eqD_self {n m : Nat} {d : D} (h : Ok m n d) (hn : n ≤ 60) : eqD d d = some true := by rw [eqD_ok h h (by omega) (by omega), eqv_self n h]
end Dt

/-! The draws of the laws' tape, plain. -/
namespace Lw
open Dt PySem
/-- the law's tape: the script's numbers, the place, what is left of the cell -/
def TapeOk (t : D) : Prop := ∃ (ns : List Int) (k r : Int), t = .lst [.lst (ns.map D.int), .int k, .int r]
@[simp] theorem atI_0 {α : Type} (a b c : α) : L2.atI [a, b, c] 0 = some a := rfl
@[simp] theorem atI_1 {α : Type} (a b c : α) : L2.atI [a, b, c] 1 = some b := rfl
@[simp] theorem atI_2 {α : Type} (a b c : α) : L2.atI [a, b, c] 2 = some c := rfl
@[simp] theorem ixN_1 : L2.ixN 3 1 = some 1 := rfl
@[simp] theorem ixN_2 : L2.ixN 3 2 = some 2 := rfl
theorem atI_mod {ns : List Int} (k : Int) (h : 0 < ns.length) : ∃ c, L2.atI (ns.map D.int) (k % ns.length) = some (.int c) := by
  have h1 : 0 ≤ k % (ns.length : Int) := Int.emod_nonneg _ (by omega)
  have h2 : k % (ns.length : Int) < ns.length := Int.emod_lt_of_pos _ (by omega)
  obtain ⟨j, hj⟩ : ∃ j : Nat, k % (ns.length : Int) = j := ⟨(k % (ns.length : Int)).toNat, by omega⟩
  rw [hj] at h2 ⊢
  have hl : j < ns.length := by omega
  exact ⟨ns[j], L2.atI_nat (by simp [hl])⟩
theorem mulA_l (i j : Int) (h1 : -(2 ^ 64) < i) (h2 : i < 2 ^ 64) : CMulA i j := .inl (.inl ⟨h1, h2⟩)
theorem mulA_p (x y : Int) : CMulA (x % 2305843009213693951) y := mulA_l _ _ (by have := Int.emod_nonneg x (b := 2305843009213693951) (by decide); omega) (by have := Int.emod_lt_of_pos x (b := 2305843009213693951) (by decide); omega)
set_option maxHeartbeats 2000000 in
theorem draw_ok {t : D} {m : Int} (ht : TapeOk t) (h0 : 0 < m) (hm : m.natAbs.log2 < 9000) : ∃ v t', m_L_draw [t, .int m] = .ok (.int v) [t'] ∧ TapeOk t' ∧ 0 ≤ v ∧ v < m := by
  obtain ⟨ns, k, r, rfl⟩ := ht
  have fin : ∀ (k' x : Int), 0 ≤ x % m ∧ x % m < m ∧ TapeOk (.lst [.lst (ns.map D.int), .int k', .int (x / m)]) := fun k' x => ⟨Int.emod_nonneg _ (by omega), Int.emod_lt_of_pos _ h0, _, _, _, rfl⟩
  have c1 : ∀ x, L2.CDivW x m := fun x => ⟨h0, hm⟩
  have c2 : L2.CPow 10 18 := ⟨by decide, by decide, by decide⟩
  have c3 : ∀ x, CMulA 1000003 x := fun x => mulA_l _ _ (by decide) (by decide)
  have c4 : ∀ x, CMulA 1181783497276652981 x := fun x => mulA_l _ _ (by decide) (by decide)
  unfold m_L_draw runI b_L_draw u1_L_draw u0_L_draw
  by_cases h1 : r < m
  · by_cases h2 : 0 < ns.length
    · obtain ⟨c, hc⟩ := atI_mod k h2
      by_cases h3 : (ns.length : Int) ≤ k
      · simp [gLt, lexI, gIdx, idxD, h1, gLen, gGt, gGe, gInt, gMod, gI, putD, h2, hc, h3, gPow, c2, gMul, c3, c4, gAdd, mulA_p, gDiv, h0, c1, lastIo]
        exact ⟨_, _, ⟨rfl, rfl⟩, (fin _ _).2.2, (fin 0 _).1, (fin 0 _).2.1⟩
      · by_cases h4 : c < 10 ^ 18
        · have h4' : c < 1000000000000000000 := h4
          simp [gLt, lexI, gIdx, idxD, h1, gLen, gGt, gGe, gInt, gMod, gI, putD, h2, hc, h3, h4', gPow, c2, gMul, c3, c4, gAdd, mulA_p, gDiv, h0, c1, lastIo]
          exact ⟨_, _, ⟨rfl, rfl⟩, (fin _ _).2.2, (fin 0 _).1, (fin 0 _).2.1⟩
        · have h4' : ¬ c < 1000000000000000000 := h4
          simp [gLt, lexI, gIdx, idxD, h1, gLen, gGt, gGe, gInt, gMod, gI, putD, h2, hc, h3, h4', gPow, c2, gMul, c3, c4, gAdd, mulA_p, gDiv, h0, c1, lastIo]
          exact ⟨_, _, ⟨rfl, rfl⟩, (fin _ _).2.2, (fin 0 _).1, (fin 0 _).2.1⟩
    · have e : ns = [] := by cases ns with | nil => rfl | cons a b => simp at h2
      subst e
      by_cases h3 : (0 : Int) ≤ k
      · simp [gLt, lexI, gIdx, idxD, h1, gLen, gGt, gGe, gInt, gMod, gI, putD, h3, gPow, c2, gMul, c3, c4, gAdd, mulA_p, gDiv, h0, c1, lastIo]
        exact ⟨_, _, ⟨rfl, rfl⟩, (fin _ _).2.2, (fin 0 _).1, (fin 0 _).2.1⟩
      · simp [gLt, lexI, gIdx, idxD, h1, gLen, gGt, gGe, gInt, gMod, gI, putD, h3, gPow, c2, gMul, c3, c4, gAdd, mulA_p, gDiv, h0, c1, lastIo]
        exact ⟨_, _, ⟨rfl, rfl⟩, (fin _ _).2.2, (fin 0 _).1, (fin 0 _).2.1⟩
  · simp [gLt, lexI, gIdx, idxD, h1, gLen, gGt, gInt, gMod, gI, putD, gDiv, h0, c1, lastIo]
    exact ⟨_, _, ⟨rfl, rfl⟩, (fin _ _).2.2, (fin 0 _).1, (fin 0 _).2.1⟩
/-- .. by a written number -/
theorem draw_lit {t : D} (m : Int) (ht : TapeOk t) (h0 : 0 < m := by decide) (hm : m < 2 ^ 100 := by decide) : ∃ v t', m_L_draw [t, .int m] = .ok (.int v) [t'] ∧ TapeOk t' ∧ 0 ≤ v ∧ v < m :=
  draw_ok ht h0 (by
    have h : m.natAbs < 2 ^ 100 := by omega
    have := (Nat.log2_lt (by omega)).mpr h
    omega)
end Lw

/-! Small numbers: draws by a length, places, the line of sizes. -/
namespace Lw
open Dt PySem
theorem line4 : (4 : Nat) ≤ sizeLine := line_pos (by decide)
theorem line5 : (5 : Nat) ≤ sizeLine := line_pos (by decide)
theorem line6 : (6 : Nat) ≤ sizeLine := line_pos (by decide)
theorem line7 : (7 : Nat) ≤ sizeLine := line_pos (by decide)
theorem line2 : (2 : Nat) ≤ sizeLine := line_pos (by decide)
/-- an item of a written list at a drawn place -/
theorem atI_in {α : Type} {xs : List α} {i : Int} (h0 : 0 ≤ i) (h : i < xs.length) : ∃ x, L2.atI xs i = some x ∧ x ∈ xs := by
  obtain ⟨j, hj⟩ : ∃ j : Nat, i = j := ⟨i.toNat, by omega⟩
  subst hj
  have hl : j < xs.length := by omega
  exact ⟨xs[j], L2.atI_nat (by simp [hl]), List.getElem_mem hl⟩
theorem line1 : (1 : Nat) ≤ sizeLine := line_pos (by decide)
theorem log_small {m : Nat} (h : m ≤ 100000) : (m : Int).natAbs.log2 < 9000 := by
  have h2 : ((m : Int)).natAbs = m := by omega
  rw [h2]
  by_cases h0 : m = 0
  · subst h0; decide
  · have := (Nat.log2_lt h0).mpr (show m < 2 ^ 100 by omega)
    omega
theorem draw_len {t : D} {m : Nat} (ht : TapeOk t) (h0 : 0 < m) (hm : m ≤ 100000) : ∃ k : Nat, ∃ t', m_L_draw [t, .int m] = .ok (.int k) [t'] ∧ TapeOk t' ∧ k < m := by
  obtain ⟨v, t', e, h, v0, v1⟩ := draw_ok ht (m := (m : Int)) (by omega) (log_small hm)
  obtain ⟨k, rfl⟩ : ∃ k : Nat, v = k := ⟨v.toNat, by omega⟩
  exact ⟨k, t', e, h, by omega⟩
theorem seqIndex_lt {k n : Nat} (h : k < n) : seqIndex? (k : Int) n = some k := by
  unfold seqIndex?
  simp [h]
  split <;> omega
theorem atI_at {α : Type} {xs : List α} {k : Nat} (h : k < xs.length) : L2.atI xs (k : Int) = some xs[k] := L2.atI_nat (by simp [h])
theorem ixN_at {n k : Nat} (h : k < n) : L2.ixN n (k : Int) = some k := by
  unfold L2.ixN
  simp [h]
theorem small_line {n : Nat} (h : n ≤ 100000) : n < sizeLine := Nat.lt_of_le_of_lt h (Nat.lt_of_lt_of_le (by decide : 100000 < 100001) (line_pos (by decide)))
end Lw

/-! Rows of integers without constants: one place taken away; a number between bounds. Plain reckoning, no program. -/
namespace Lw
abbrev Rw := Bool × List Int × List Int
def dot : List Int → List Int → Int
  | a :: as, x :: xs => a * x + dot as xs
  | _, _ => 0
/-- the row holds at x -/
def Hd (s : Bool) (f x : List Int) : Prop := 0 ≤ dot f x ∧ (s = true → 0 < dot f x)
theorem dot_nil (f : List Int) : dot f [] = 0 := by cases f <;> rfl
theorem nil_dot (x : List Int) : dot [] x = 0 := rfl
theorem dot_mul (k : Int) : ∀ f x : List Int, dot (f.map (k * ·)) x = k * dot f x
  | [], x => by simp [dot]
  | a :: f, [] => by simp [dot_nil]
  | a :: f, x :: xs => by
    simp only [List.map_cons, dot]
    rw [dot_mul k f xs, Int.mul_add, Int.mul_assoc]
theorem dot_mulr (k : Int) : ∀ f x : List Int, dot f (x.map (k * ·)) = k * dot f x
  | [], x => by simp [dot]
  | a :: f, [] => by simp [dot_nil]
  | a :: f, x :: xs => by
    simp only [List.map_cons, dot]
    rw [dot_mulr k f xs, Int.mul_add, Int.mul_left_comm]
def comb (k l : Int) (f g : List Int) : List Int := List.zipWith (fun a b => k * a + l * b) f g
theorem dot_comb (k l : Int) : ∀ {f g : List Int} (x : List Int), f.length = g.length → dot (comb k l f g) x = k * dot f x + l * dot g x
  | [], [], x, _ => by simp [comb, dot]
  | a :: f, b :: g, [], _ => by simp [dot_nil]
  | a :: f, b :: g, x :: xs, h => by
    have ih := dot_comb k l xs (show f.length = g.length by simpa using h)
    unfold comb at ih ⊢
    simp only [List.zipWith_cons_cons, dot]
    rw [ih, Int.add_mul, Int.mul_add, Int.mul_add, Int.mul_assoc, Int.mul_assoc]
    omega
theorem dot_snoc (t : Int) : ∀ (f x : List Int), dot f (x ++ [t]) = dot f x + f.getD x.length 0 * t
  | [], x => by simp [dot]
  | a :: f, [] => by simp [dot, dot_nil]
  | a :: f, x :: xs => by
    simp only [List.cons_append, dot, List.length_cons, List.getD_cons_succ]
    rw [dot_snoc t f xs, Int.add_assoc]
theorem comb_len {k l : Int} {f g : List Int} (h : f.length = g.length) : (comb k l f g).length = f.length := by unfold comb; rw [List.length_zipWith]; omega
theorem comb_get {k l : Int} (p : Nat) : ∀ {f g : List Int}, f.length = g.length → (comb k l f g).getD p 0 = k * f.getD p 0 + l * g.getD p 0 := by
  induction p with
  | zero => intro f g h; cases f <;> cases g <;> simp [comb] at *
  | succ p ih =>
    intro f g h
    cases f <;> cases g <;> try simp [comb] at *
    rename_i a f b g
    have := ih (f := f) (g := g) (by simpa using h)
    simpa [comb] using this
/-! ### what lean does -/
def rowF (r : Rw) : List Int := r.2.1
def rowW (r : Rw) : List Int := r.2.2
structure LeanOk (rows out : List Rw) : Prop where
  len : out.length ≤ rows.length
  of : ∀ r ∈ out, ∃ r0 ∈ rows, ∃ d : Int, 0 < d ∧ r0 = (r.1, r.2.1.map (d * ·), r.2.2.map (d * ·))
  to : ∀ r0 ∈ rows, ∃ r ∈ out, (r0.1 = true → r.1 = true) ∧ ∃ k k' : Int, 0 < k ∧ 0 < k' ∧ r.2.1.map (k * ·) = r0.2.1.map (k' * ·)
theorem pos_of_mul {k a : Int} (hk : 0 < k) (h : 0 < k * a) : 0 < a := by
  rcases (show 0 < a ∨ a ≤ 0 by omega) with z | z
  · exact z
  · have := Int.mul_nonpos_of_nonneg_of_nonpos (Int.le_of_lt hk) z
    omega
theorem nonneg_of_mul {k a : Int} (hk : 0 < k) (h : 0 ≤ k * a) : 0 ≤ a := by
  rcases (show a < 0 ∨ 0 ≤ a by omega) with z | z
  · have := Int.mul_neg_of_pos_of_neg hk z
    omega
  · exact z
theorem hd_scale {k : Int} (hk : 0 < k) {s : Bool} {f x : List Int} : Hd s (f.map (k * ·)) x ↔ Hd s f x := by
  unfold Hd
  rw [dot_mul]
  constructor
  · rintro ⟨h1, h2⟩
    exact ⟨nonneg_of_mul hk h1, fun hs => pos_of_mul hk (h2 hs)⟩
  · rintro ⟨h1, h2⟩
    exact ⟨Int.mul_nonneg (Int.le_of_lt hk) h1, fun hs => Int.mul_pos hk (h2 hs)⟩
theorem LeanOk.sound {rows out : List Rw} (h : LeanOk rows out) {x : List Int} (hx : ∀ r ∈ rows, Hd r.1 r.2.1 x) : ∀ r ∈ out, Hd r.1 r.2.1 x := fun r hr => by
  obtain ⟨r0, h0, d, hd, e⟩ := h.of r hr
  have := hx r0 h0
  rw [e] at this
  exact (hd_scale hd).mp this
theorem LeanOk.complete {rows out : List Rw} (h : LeanOk rows out) {x : List Int} (hx : ∀ r ∈ out, Hd r.1 r.2.1 x) : ∀ r ∈ rows, Hd r.1 r.2.1 x := fun r0 h0 => by
  obtain ⟨r, hr, hs, k, k', hk, hk', e⟩ := h.to r0 h0
  have h1 : Hd r.1 (r.2.1.map (k * ·)) x := (hd_scale hk).mpr (hx r hr)
  rw [e] at h1
  have h2 := (hd_scale hk').mp h1
  exact ⟨h2.1, fun z => h2.2 (hs z)⟩
/-! ### one place taken away -/
def summedR (lo hi : Rw) (k l : Int) : Rw := (lo.1 || hi.1, comb k l lo.2.1 hi.2.1, comb k l lo.2.2 hi.2.2)
def at0 (r : Rw) (p : Nat) : Int := r.2.1.getD p 0
def withoutR (rows : List Rw) (p : Nat) : List Rw := rows.filter (fun r => decide (at0 r p = 0)) ++ ((rows.filter fun r => decide (at0 r p > 0)).flatMap fun lo => (rows.filter fun r => decide (at0 r p < 0)).map fun hi => summedR lo hi (-(at0 hi p)) (at0 lo p))
theorem without_mem {rows : List Rw} {p : Nat} {r : Rw} : r ∈ withoutR rows p ↔ (r ∈ rows ∧ at0 r p = 0) ∨ ∃ lo ∈ rows, ∃ hi ∈ rows, 0 < at0 lo p ∧ at0 hi p < 0 ∧ r = summedR lo hi (-(at0 hi p)) (at0 lo p) := by
  unfold withoutR
  rw [List.mem_append, List.mem_filter, List.mem_flatMap]
  constructor
  · rintro (⟨h1, h2⟩ | ⟨lo, h1, h2⟩)
    · exact .inl ⟨h1, by simpa using h2⟩
    · rw [List.mem_filter] at h1
      obtain ⟨hi, h3, rfl⟩ := List.mem_map.mp h2
      rw [List.mem_filter] at h3
      exact .inr ⟨lo, h1.1, hi, h3.1, by simpa using h1.2, by simpa using h3.2, rfl⟩
  · rintro (⟨h1, h2⟩ | ⟨lo, h1, hi, h2, h3, h4, rfl⟩)
    · exact .inl ⟨h1, by simpa using h2⟩
    · exact .inr ⟨lo, List.mem_filter.mpr ⟨h1, by simpa using h3⟩, List.mem_map.mpr ⟨hi, List.mem_filter.mpr ⟨h2, by simpa using h4⟩, rfl⟩⟩
theorem hd_sum {lo hi : Rw} {k l : Int} {x : List Int} (hk : 0 < k) (hl : 0 < l) (e : lo.2.1.length = hi.2.1.length) (h1 : Hd lo.1 lo.2.1 x) (h2 : Hd hi.1 hi.2.1 x) : Hd (summedR lo hi k l).1 (summedR lo hi k l).2.1 x := by
  show Hd (lo.1 || hi.1) (comb k l lo.2.1 hi.2.1) x
  unfold Hd
  rw [dot_comb k l x e]
  have a1 := Int.mul_nonneg (Int.le_of_lt hk) h1.1
  have a2 := Int.mul_nonneg (Int.le_of_lt hl) h2.1
  refine ⟨by omega, fun hs => ?_⟩
  rw [Bool.or_eq_true] at hs
  rcases hs with hs | hs
  · have := Int.mul_pos hk (h1.2 hs); omega
  · have := Int.mul_pos hl (h2.2 hs); omega
theorem without_sound {rows : List Rw} {p m : Nat} {x : List Int} (hl : ∀ r ∈ rows, r.2.1.length = m) (hx : ∀ r ∈ rows, Hd r.1 r.2.1 x) : ∀ r ∈ withoutR rows p, Hd r.1 r.2.1 x := fun r hr => by
  rcases without_mem.mp hr with ⟨h, _⟩ | ⟨lo, h1, hi, h2, h3, h4, rfl⟩
  · exact hx r h
  · exact hd_sum (by omega) h3 ((hl lo h1).trans (hl hi h2).symm) (hx lo h1) (hx hi h2)
/-! ### a number between bounds -/
/-- T/B is above t/b (strictly so) -/
def AboveB (T B : Int) (c : Int × Int × Bool) : Prop := c.1 * B ≤ T * c.2.1 ∧ (c.2.2 = true → c.1 * B < T * c.2.1)
def BelowB (T B : Int) (c : Int × Int × Bool) : Prop := T * c.2.1 ≤ c.1 * B ∧ (c.2.2 = true → T * c.2.1 < c.1 * B)
theorem lt_of_mul {k a b : Int} (hk : 0 < k) (h : k * a < k * b) : a < b := by
  rcases (show a < b ∨ b ≤ a by omega) with z | z
  · exact z
  · have := Int.mul_le_mul_of_nonneg_left z (Int.le_of_lt hk)
    omega
theorem le_of_mul {k a b : Int} (hk : 0 < k) (h : k * a ≤ k * b) : a ≤ b := by
  rcases (show b < a ∨ a ≤ b by omega) with z | z
  · have := Int.mul_lt_mul_of_pos_left z hk
    omega
  · exact z
theorem above_imp {T B : Int} {c d : Int × Int × Bool} (hB : 0 < B) (hc : 0 < c.2.1) (hd : 0 < d.2.1) (h : AboveB T B c) (q : d.1 * c.2.1 < c.1 * d.2.1 ∨ d.1 * c.2.1 = c.1 * d.2.1 ∧ (d.2.2 = true → c.2.2 = true)) : AboveB T B d := by
  obtain ⟨t, b, s⟩ := c
  obtain ⟨t', b', s'⟩ := d
  simp only [AboveB] at *
  obtain ⟨h1, h2⟩ := h
  have m1 : b' * (t * B) ≤ b' * (T * b) := Int.mul_le_mul_of_nonneg_left h1 (Int.le_of_lt hd)
  have e1 : b' * (t * B) = (t * b') * B := by rw [← Int.mul_assoc, Int.mul_comm b' t]
  have e2 : b' * (T * b) = b * (T * b') := by rw [Int.mul_left_comm, Int.mul_comm b' b, Int.mul_left_comm]
  have e3 : b * (t' * B) = (t' * b) * B := by rw [← Int.mul_assoc, Int.mul_comm b t']
  rcases q with q | ⟨q, qs⟩
  · have m2 : (t' * b) * B < (t * b') * B := Int.mul_lt_mul_of_pos_right q hB
    have : b * (t' * B) < b * (T * b') := by omega
    have := lt_of_mul hc this
    exact ⟨Int.le_of_lt this, fun _ => this⟩
  · have m2 : (t' * b) * B = (t * b') * B := by rw [q]
    refine ⟨le_of_mul hc (by omega), fun hs => lt_of_mul hc ?_⟩
    have m3 : b' * (t * B) < b' * (T * b) := Int.mul_lt_mul_of_pos_left (h2 (qs hs)) hd
    omega
theorem below_imp {T B : Int} {c d : Int × Int × Bool} (hB : 0 < B) (hc : 0 < c.2.1) (hd : 0 < d.2.1) (h : BelowB T B c) (q : c.1 * d.2.1 < d.1 * c.2.1 ∨ d.1 * c.2.1 = c.1 * d.2.1 ∧ (d.2.2 = true → c.2.2 = true)) : BelowB T B d := by
  obtain ⟨t, b, s⟩ := c
  obtain ⟨t', b', s'⟩ := d
  simp only [BelowB] at *
  obtain ⟨h1, h2⟩ := h
  have m1 : b' * (T * b) ≤ b' * (t * B) := Int.mul_le_mul_of_nonneg_left h1 (Int.le_of_lt hd)
  have e1 : b' * (t * B) = (t * b') * B := by rw [← Int.mul_assoc, Int.mul_comm b' t]
  have e2 : b' * (T * b) = b * (T * b') := by rw [Int.mul_left_comm, Int.mul_comm b' b, Int.mul_left_comm]
  have e3 : b * (t' * B) = (t' * b) * B := by rw [← Int.mul_assoc, Int.mul_comm b t']
  rcases q with q | ⟨q, qs⟩
  · have m2 : (t * b') * B < (t' * b) * B := Int.mul_lt_mul_of_pos_right q hB
    have : b * (T * b') < b * (t' * B) := by omega
    have := lt_of_mul hc this
    exact ⟨Int.le_of_lt this, fun _ => this⟩
  · have m2 : (t' * b) * B = (t * b') * B := by rw [q]
    refine ⟨le_of_mul hc (by omega), fun hs => lt_of_mul hc ?_⟩
    have m3 : b' * (T * b) < b' * (t * B) := Int.mul_lt_mul_of_pos_left (h2 (qs hs)) hd
    omega
/-- between the bounds, if they leave room -/
def midB : Option (Int × Int × Bool) → Option (Int × Int × Bool) → Int × Int
  | none, none => (0, 1)
  | some l, none => (l.1 + (if l.2.2 = true then l.2.1 else 0), l.2.1)
  | none, some h => (h.1 - (if h.2.2 = true then h.2.1 else 0), h.2.1)
  | some l, some h => if l.2.2 = false then (l.1, l.2.1) else if l.1 * h.2.1 = h.1 * l.2.1 then (l.1, l.2.1) else (l.1 * h.2.1 + h.1 * l.2.1, 2 * l.2.1 * h.2.1)
theorem mid_ok {lo hi : Option (Int × Int × Bool)} (hl : ∀ c, lo = some c → 0 < c.2.1) (hh : ∀ c, hi = some c → 0 < c.2.1)
    (room : ∀ c d, lo = some c → hi = some d → c.1 * d.2.1 ≤ d.1 * c.2.1 ∧ ((c.2.2 || d.2.2) = true → c.1 * d.2.1 < d.1 * c.2.1)) :
    0 < (midB lo hi).2 ∧ (∀ c, lo = some c → AboveB (midB lo hi).1 (midB lo hi).2 c) ∧ ∀ c, hi = some c → BelowB (midB lo hi).1 (midB lo hi).2 c := by
  cases lo with
  | none =>
    cases hi with
    | none => exact ⟨by decide, (fun c e => nomatch e), (fun c e => nomatch e)⟩
    | some h =>
      obtain ⟨t, b, s⟩ := h
      have hb : 0 < b := hh _ rfl
      refine ⟨hb, (fun c e => nomatch e), fun c e => ?_⟩
      cases e
      cases s
      · simp [midB, BelowB]
      · simp only [midB, BelowB, if_true]
        have : 0 < b * b := Int.mul_pos hb hb
        rw [Int.sub_mul]
        exact ⟨by omega, fun _ => by omega⟩
  | some l =>
    obtain ⟨t, b, s⟩ := l
    have hb : 0 < b := hl _ rfl
    cases hi with
    | none =>
      refine ⟨hb, (fun c e => ?_), (fun c e => nomatch e)⟩
      cases e
      cases s
      · simp [midB, AboveB]
      · simp only [midB, AboveB, if_true]
        have : 0 < b * b := Int.mul_pos hb hb
        rw [Int.add_mul]
        exact ⟨by omega, fun _ => by omega⟩
    | some h =>
      obtain ⟨u, d, s2⟩ := h
      have hd : 0 < d := hh _ rfl
      obtain ⟨r1, r2⟩ := room _ _ rfl rfl
      simp only at r1 r2
      cases s
      · simp only [midB, if_true]
        refine ⟨hb, (fun c e => ?_), fun c e => ?_⟩
        · cases e; exact ⟨Int.le_refl _, fun z => nomatch z⟩
        · cases e
          exact ⟨r1, fun z => r2 (by simpa using z)⟩
      · have r3 := r2 rfl
        have ne : ¬ t * d = u * b := by omega
        simp only [midB, Bool.true_eq_false, if_false, if_neg ne]
        have hbd : 0 < b * d := Int.mul_pos hb hd
        refine ⟨by rw [Int.mul_assoc]; omega, (fun c e => ?_), fun c e => ?_⟩
        · cases e
          have x1 : t * (2 * b * d) < (t * d + u * b) * b := by
            have y1 : t * (2 * b * d) = 2 * ((t * d) * b) := by
              rw [Int.mul_assoc 2 b d, Int.mul_left_comm t 2, Int.mul_comm b d, ← Int.mul_assoc t d b]
            have y2 : (t * d + u * b) * b = (t * d) * b + (u * b) * b := Int.add_mul ..
            have y3 : (t * d) * b < (u * b) * b := Int.mul_lt_mul_of_pos_right r3 hb
            omega
          exact ⟨Int.le_of_lt x1, fun _ => x1⟩
        · cases e
          have x1 : (t * d + u * b) * d < u * (2 * b * d) := by
            have y1 : u * (2 * b * d) = 2 * ((u * b) * d) := by
              rw [Int.mul_assoc 2 b d, Int.mul_left_comm u 2, ← Int.mul_assoc u b d]
            have y2 : (t * d + u * b) * d = (t * d) * d + (u * b) * d := Int.add_mul ..
            have y3 : (t * d) * d < (u * b) * d := Int.mul_lt_mul_of_pos_right r3 hd
            omega
          exact ⟨Int.le_of_lt x1, fun _ => x1⟩
/-- the lower bounds of a place, the upper ones: what stands in front of it amounts to rest -/
def lowsOf (rows : List Rw) (p : Nat) (x : List Int) : List (Int × Int × Bool) := (rows.filter fun r => decide (at0 r p > 0)).map fun r => (-(dot r.2.1 x), at0 r p, r.1)
def highsOf (rows : List Rw) (p : Nat) (x : List Int) : List (Int × Int × Bool) := (rows.filter fun r => decide (at0 r p < 0)).map fun r => (dot r.2.1 x, -(at0 r p), r.1)
/-- the strictest of the lower bounds -/
def lowBest : List (Int × Int × Bool) → Option (Int × Int × Bool) → Option (Int × Int × Bool)
  | [], o => o
  | c :: cs, o => lowBest cs (match o with
    | none => some c
    | some l => if l.1 * c.2.1 < c.1 * l.2.1 ∨ l.1 * c.2.1 = c.1 * l.2.1 ∧ l.2.2 = false ∧ c.2.2 = true then some c else some l)
def highBest : List (Int × Int × Bool) → Option (Int × Int × Bool) → Option (Int × Int × Bool)
  | [], o => o
  | c :: cs, o => highBest cs (match o with
    | none => some c
    | some l => if c.1 * l.2.1 < l.1 * c.2.1 ∨ c.1 * l.2.1 = l.1 * c.2.1 ∧ c.2.2 = true ∧ l.2.2 = false then some c else some l)
theorem lowBest_ok : ∀ {cs : List (Int × Int × Bool)} {o : Option (Int × Int × Bool)}, (∀ c ∈ cs, 0 < c.2.1) → (∀ c, o = some c → 0 < c.2.1) →
    (∀ l, lowBest cs o = some l → 0 < l.2.1 ∧ (l ∈ cs ∨ o = some l)) ∧ (lowBest cs o = none → cs = [] ∧ o = none) ∧
    ∀ {T B : Int}, 0 < B → (∀ l, lowBest cs o = some l → AboveB T B l) → (∀ c ∈ cs, AboveB T B c) ∧ ∀ c, o = some c → AboveB T B c
  | [], o, _, ho => ⟨fun l e => ⟨ho l e, .inr e⟩, fun e => ⟨rfl, e⟩, fun _ h => ⟨(fun c hc => nomatch hc), h⟩⟩
  | c :: cs, o, hcs, ho => by
    have hc := hcs c List.mem_cons_self
    unfold lowBest
    have ho' : ∀ c', (match o with
      | none => some c
      | some l => if l.1 * c.2.1 < c.1 * l.2.1 ∨ l.1 * c.2.1 = c.1 * l.2.1 ∧ l.2.2 = false ∧ c.2.2 = true then some c else some l) = some c' → 0 < c'.2.1 ∧ (c' = c ∨ o = some c') := fun c' e => by
      cases o with
      | none => cases e; exact ⟨hc, .inl rfl⟩
      | some l =>
        simp only at e
        split at e
        · cases e; exact ⟨hc, .inl rfl⟩
        · cases e; exact ⟨ho _ rfl, .inr rfl⟩
    obtain ⟨i1, i2, i3⟩ := lowBest_ok (cs := cs) (fun d hd => hcs d (List.mem_cons_of_mem _ hd)) (fun c' e => (ho' c' e).1)
    refine ⟨fun l e => ?_, fun e => ?_, fun {T B} hB h => ?_⟩
    · obtain ⟨p1, p2⟩ := i1 l e
      refine ⟨p1, ?_⟩
      rcases p2 with p2 | p2
      · exact .inl (List.mem_cons_of_mem _ p2)
      · rcases (ho' l p2).2 with rfl | q
        · exact .inl List.mem_cons_self
        · exact .inr q
    · have z := (i2 e).2
      cases o with
      | none => cases z
      | some l => simp only at z; split at z <;> cases z
    · obtain ⟨j1, j2⟩ := i3 hB h
      have key : AboveB T B c ∧ ∀ c', o = some c' → AboveB T B c' := by
        cases o with
        | none => exact ⟨j2 c rfl, (fun c' e => nomatch e)⟩
        | some l =>
          have hl := ho l rfl
          simp only at j2
          split at j2
          · rename_i q
            have a := j2 c rfl
            refine ⟨a, fun c' e => ?_⟩
            cases e
            exact above_imp hB hc hl a (q.imp id fun w => ⟨w.1, fun z => by rw [w.2.1] at z; cases z⟩)
          · rename_i q
            have a := j2 l rfl
            refine ⟨above_imp hB hl hc a ?_, fun c' e => by cases e; exact a⟩
            rcases Int.lt_trichotomy (c.1 * l.2.1) (l.1 * c.2.1) with z | z | z
            · exact .inl z
            · refine .inr ⟨z, fun hs => ?_⟩
              cases hls : l.2.2 with
              | true => rfl
              | false => exact absurd (.inr ⟨z.symm, hls, hs⟩) q
            · exact absurd (.inl z) q
      refine ⟨fun d hd => ?_, key.2⟩
      rcases List.mem_cons.mp hd with rfl | hd
      · exact key.1
      · exact j1 d hd
theorem highBest_ok : ∀ {cs : List (Int × Int × Bool)} {o : Option (Int × Int × Bool)}, (∀ c ∈ cs, 0 < c.2.1) → (∀ c, o = some c → 0 < c.2.1) →
    (∀ l, highBest cs o = some l → 0 < l.2.1 ∧ (l ∈ cs ∨ o = some l)) ∧ (highBest cs o = none → cs = [] ∧ o = none) ∧
    ∀ {T B : Int}, 0 < B → (∀ l, highBest cs o = some l → BelowB T B l) → (∀ c ∈ cs, BelowB T B c) ∧ ∀ c, o = some c → BelowB T B c
  | [], o, _, ho => ⟨fun l e => ⟨ho l e, .inr e⟩, fun e => ⟨rfl, e⟩, fun _ h => ⟨(fun c hc => nomatch hc), h⟩⟩
  | c :: cs, o, hcs, ho => by
    have hc := hcs c List.mem_cons_self
    unfold highBest
    have ho' : ∀ c', (match o with
      | none => some c
      | some l => if c.1 * l.2.1 < l.1 * c.2.1 ∨ c.1 * l.2.1 = l.1 * c.2.1 ∧ c.2.2 = true ∧ l.2.2 = false then some c else some l) = some c' → 0 < c'.2.1 ∧ (c' = c ∨ o = some c') := fun c' e => by
      cases o with
      | none => cases e; exact ⟨hc, .inl rfl⟩
      | some l =>
        simp only at e
        split at e
        · cases e; exact ⟨hc, .inl rfl⟩
        · cases e; exact ⟨ho _ rfl, .inr rfl⟩
    obtain ⟨i1, i2, i3⟩ := highBest_ok (cs := cs) (fun d hd => hcs d (List.mem_cons_of_mem _ hd)) (fun c' e => (ho' c' e).1)
    refine ⟨fun l e => ?_, fun e => ?_, fun {T B} hB h => ?_⟩
    · obtain ⟨p1, p2⟩ := i1 l e
      refine ⟨p1, ?_⟩
      rcases p2 with p2 | p2
      · exact .inl (List.mem_cons_of_mem _ p2)
      · rcases (ho' l p2).2 with rfl | q
        · exact .inl List.mem_cons_self
        · exact .inr q
    · have z := (i2 e).2
      cases o with
      | none => cases z
      | some l => simp only at z; split at z <;> cases z
    · obtain ⟨j1, j2⟩ := i3 hB h
      have key : BelowB T B c ∧ ∀ c', o = some c' → BelowB T B c' := by
        cases o with
        | none => exact ⟨j2 c rfl, (fun c' e => nomatch e)⟩
        | some l =>
          have hl := ho l rfl
          simp only at j2
          split at j2
          · rename_i q
            have a := j2 c rfl
            refine ⟨a, fun c' e => ?_⟩
            cases e
            exact below_imp hB hc hl a (q.imp id fun w => ⟨w.1.symm, fun z => by rw [w.2.2] at z; cases z⟩)
          · rename_i q
            have a := j2 l rfl
            refine ⟨below_imp hB hl hc a ?_, fun c' e => by cases e; exact a⟩
            rcases Int.lt_trichotomy (c.1 * l.2.1) (l.1 * c.2.1) with z | z | z
            · exact absurd (.inl z) q
            · refine .inr ⟨z, fun hs => ?_⟩
              cases hls : l.2.2 with
              | true => rfl
              | false => exact absurd (.inr ⟨z, hs, hls⟩) q
            · exact .inl z
      refine ⟨fun d hd => ?_, key.2⟩
      rcases List.mem_cons.mp hd with rfl | hd
      · exact key.1
      · exact j1 d hd
def nearR (lows highs : List (Int × Int × Bool)) : Int × Int := midB (lowBest lows none) (highBest highs none)
theorem above_scale {g T B : Int} {c : Int × Int × Bool} (hg : 0 < g) (h : AboveB (g * T) (g * B) c) : AboveB T B c := by
  obtain ⟨h1, h2⟩ := h
  have e1 : c.1 * (g * B) = g * (c.1 * B) := Int.mul_left_comm ..
  have e2 : g * T * c.2.1 = g * (T * c.2.1) := Int.mul_assoc ..
  rw [e1, e2] at h1 h2
  exact ⟨le_of_mul hg h1, fun z => lt_of_mul hg (h2 z)⟩
theorem below_scale {g T B : Int} {c : Int × Int × Bool} (hg : 0 < g) (h : BelowB (g * T) (g * B) c) : BelowB T B c := by
  obtain ⟨h1, h2⟩ := h
  have e1 : c.1 * (g * B) = g * (c.1 * B) := Int.mul_left_comm ..
  have e2 : g * T * c.2.1 = g * (T * c.2.1) := Int.mul_assoc ..
  rw [e1, e2] at h1 h2
  exact ⟨le_of_mul hg h1, fun z => lt_of_mul hg (h2 z)⟩
/-- the next number -/
theorem next_ok {rows : List Rw} {m : Nat} {x : List Int} {g T B : Int} (hl : ∀ r ∈ rows, r.2.1.length = m) (hx : ∀ r ∈ withoutR rows x.length, Hd r.1 r.2.1 x)
    (e : nearR (lowsOf rows x.length x) (highsOf rows x.length x) = (g * T, g * B)) (hg : 0 < g) : 0 < B ∧ ∀ r ∈ rows, Hd r.1 r.2.1 (x.map (B * ·) ++ [T]) := by
  have pl : ∀ c ∈ lowsOf rows x.length x, 0 < c.2.1 := fun c hc => by
    obtain ⟨r, hr, rfl⟩ := List.mem_map.mp hc
    simpa using (List.mem_filter.mp hr).2
  have ph : ∀ c ∈ highsOf rows x.length x, 0 < c.2.1 := fun c hc => by
    obtain ⟨r, hr, rfl⟩ := List.mem_map.mp hc
    have : at0 r x.length < 0 := by simpa using (List.mem_filter.mp hr).2
    show 0 < -(at0 r x.length)
    omega
  obtain ⟨l1, _, l3⟩ := lowBest_ok (o := none) pl (fun c z => nomatch z)
  obtain ⟨h1, _, h3⟩ := highBest_ok (o := none) ph (fun c z => nomatch z)
  obtain ⟨m1, m2, m3⟩ := mid_ok (lo := lowBest (lowsOf rows x.length x) none) (hi := highBest (highsOf rows x.length x) none) (fun c z => (l1 c z).1) (fun c z => (h1 c z).1) fun c d zc zd => by
    have mc : c ∈ lowsOf rows x.length x := (l1 c zc).2.resolve_right (fun z => nomatch z)
    have md : d ∈ highsOf rows x.length x := (h1 d zd).2.resolve_right (fun z => nomatch z)
    obtain ⟨lo, hlo, rfl⟩ := List.mem_map.mp mc
    obtain ⟨hi, hhi, rfl⟩ := List.mem_map.mp md
    rw [List.mem_filter] at hlo hhi
    have a1 : 0 < at0 lo x.length := by simpa using hlo.2
    have a2 : at0 hi x.length < 0 := by simpa using hhi.2
    have q := hx _ (without_mem.mpr (.inr ⟨lo, hlo.1, hi, hhi.1, a1, a2, rfl⟩))
    simp only [summedR, Hd] at q
    rw [dot_comb _ _ _ ((hl lo hlo.1).trans (hl hi hhi.1).symm)] at q
    simp only
    have e1 : -(dot lo.2.1 x) * -(at0 hi x.length) = -(-(at0 hi x.length) * dot lo.2.1 x) := by rw [Int.neg_mul, Int.mul_comm]
    have e2 : dot hi.2.1 x * at0 lo x.length = at0 lo x.length * dot hi.2.1 x := Int.mul_comm ..
    rw [e1, e2]
    exact ⟨by have := q.1; omega, fun z => by have := q.2 z; omega⟩
  have e' : midB (lowBest (lowsOf rows x.length x) none) (highBest (highsOf rows x.length x) none) = (g * T, g * B) := e
  rw [e'] at m1 m2 m3
  have hB : 0 < B := pos_of_mul hg m1
  have al := (l3 hB fun l z => above_scale hg (m2 l z)).1
  have bl := (h3 hB fun l z => below_scale hg (m3 l z)).1
  refine ⟨hB, fun r hr => ?_⟩
  unfold Hd
  have ed : dot r.2.1 (x.map (B * ·) ++ [T]) = B * dot r.2.1 x + at0 r x.length * T := by rw [dot_snoc, dot_mulr, List.length_map]; rfl
  rw [ed]
  rcases Int.lt_trichotomy (at0 r x.length) 0 with z | z | z
  · obtain ⟨q1, q2⟩ := bl _ (List.mem_map.mpr ⟨r, List.mem_filter.mpr ⟨hr, by simpa using z⟩, rfl⟩)
    simp only at q1 q2
    have e1 : T * -(at0 r x.length) = -(at0 r x.length * T) := by rw [Int.mul_neg, Int.mul_comm]
    have e2 : dot r.2.1 x * B = B * dot r.2.1 x := Int.mul_comm ..
    rw [e1, e2] at q1 q2
    exact ⟨by omega, fun s => by have := q2 s; omega⟩
  · have q := hx r (without_mem.mpr (.inl ⟨hr, z⟩))
    rw [z, Int.zero_mul, Int.add_zero]
    exact ⟨Int.mul_nonneg (Int.le_of_lt hB) q.1, fun s => Int.mul_pos hB (q.2 s)⟩
  · obtain ⟨q1, q2⟩ := al _ (List.mem_map.mpr ⟨r, List.mem_filter.mpr ⟨hr, by simpa using z⟩, rfl⟩)
    simp only at q1 q2
    have e1 : T * at0 r x.length = at0 r x.length * T := Int.mul_comm ..
    have e2 : -(dot r.2.1 x) * B = -(B * dot r.2.1 x) := by rw [Int.neg_mul, Int.mul_comm]
    rw [e1, e2] at q1 q2
    exact ⟨by omega, fun s => by have := q2 s; omega⟩
end Lw

/-! Weights along the elimination; rows without the places that are gone. -/
namespace Lw
abbrev Sy := List (Bool × List Int)
def colD (sys : Sy) (p : Nat) : List Int := sys.map fun q => q.2.getD p 0
structure WOk (sys : Sy) (m : Nat) (r : Rw) : Prop where
  len : r.2.2.length = sys.length
  nn : ∀ w ∈ r.2.2, 0 ≤ w
  eq : ∀ p, p < m → r.2.1.getD p 0 = dot r.2.2 (colD sys p)
  st : r.1 = true → ∃ q ∈ r.2.2.zip sys, 0 < q.1 ∧ q.2.1 = true
theorem getD_mul (d : Int) (p : Nat) (f : List Int) : (f.map (d * ·)).getD p 0 = d * f.getD p 0 := by
  rw [List.getD_eq_getElem?_getD, List.getD_eq_getElem?_getD, List.getElem?_map]
  cases f[p]? <;> simp
theorem WOk.scale {sys : Sy} {m : Nat} {r : Rw} {d : Int} (hd : 0 < d) (h : WOk sys m (r.1, r.2.1.map (d * ·), r.2.2.map (d * ·))) : WOk sys m r := by
  refine ⟨by simpa using h.len, fun w hw => nonneg_of_mul hd (h.nn _ (List.mem_map.mpr ⟨w, hw, rfl⟩)), fun p hp => ?_, fun hs => ?_⟩
  · have := h.eq p hp
    simp only at this
    rw [getD_mul, dot_mul] at this
    exact Int.eq_of_mul_eq_mul_left (Int.ne_of_gt hd) this
  · obtain ⟨q, hq, h1, h2⟩ := h.st hs
    simp only at hq
    rw [List.zip_map_left] at hq
    obtain ⟨q', hq', rfl⟩ := List.mem_map.mp hq
    exact ⟨q', hq', pos_of_mul hd h1, h2⟩
theorem zip_comb_pos {k l : Int} (hk : 0 < k) (hl : 0 < l) : ∀ {a b : List Int} {sys : Sy}, a.length = b.length → (∀ w ∈ a, 0 ≤ w) → (∀ w ∈ b, 0 ≤ w) → ((∃ q ∈ a.zip sys, 0 < q.1 ∧ q.2.1 = true) ∨ ∃ q ∈ b.zip sys, 0 < q.1 ∧ q.2.1 = true) →
    ∃ q ∈ (comb k l a b).zip sys, 0 < q.1 ∧ q.2.1 = true
  | [], b, sys, e, _, _, h => by cases b with
    | nil => rcases h with ⟨q, hq, _⟩ | ⟨q, hq, _⟩ <;> simp at hq
    | cons _ _ => simp at e
  | _ :: _, [], _, e, _, _, _ => by simp at e
  | x :: a, y :: b, [], _, _, _, h => by rcases h with ⟨q, hq, _⟩ | ⟨q, hq, _⟩ <;> simp at hq
  | x :: a, y :: b, q0 :: sys, e, ha, hb, h => by
    have hx := ha x List.mem_cons_self
    have hy := hb y List.mem_cons_self
    have n1 := Int.mul_nonneg (Int.le_of_lt hk) hx
    have n2 := Int.mul_nonneg (Int.le_of_lt hl) hy
    have ih := zip_comb_pos (sys := sys) hk hl (show a.length = b.length by simpa using e) (fun w hw => ha w (List.mem_cons_of_mem _ hw)) (fun w hw => hb w (List.mem_cons_of_mem _ hw))
    unfold comb at ih ⊢
    rw [List.zipWith_cons_cons, List.zip_cons_cons]
    have tail : ((∃ q ∈ a.zip sys, 0 < q.1 ∧ q.2.1 = true) ∨ ∃ q ∈ b.zip sys, 0 < q.1 ∧ q.2.1 = true) → ∃ q ∈ (k * x + l * y, q0) :: (List.zipWith (fun a b => k * a + l * b) a b).zip sys, 0 < q.1 ∧ q.2.1 = true := fun h => by
      obtain ⟨q, hq, h1⟩ := ih h
      exact ⟨q, List.mem_cons_of_mem _ hq, h1⟩
    rcases h with ⟨q, hq, h1, h2⟩ | ⟨q, hq, h1, h2⟩
    · rw [List.zip_cons_cons] at hq
      rcases List.mem_cons.mp hq with rfl | hq
      · have := Int.mul_pos hk h1
        exact ⟨_, List.mem_cons_self, by show 0 < k * x + l * y; simp only at this; omega, h2⟩
      · exact tail (.inl ⟨q, hq, h1, h2⟩)
    · rw [List.zip_cons_cons] at hq
      rcases List.mem_cons.mp hq with rfl | hq
      · have := Int.mul_pos hl h1
        exact ⟨_, List.mem_cons_self, by show 0 < k * x + l * y; simp only at this; omega, h2⟩
      · exact tail (.inr ⟨q, hq, h1, h2⟩)
theorem comb_nn {k l : Int} (hk : 0 < k) (hl : 0 < l) : ∀ {a b : List Int}, (∀ w ∈ a, 0 ≤ w) → (∀ w ∈ b, 0 ≤ w) → ∀ w ∈ comb k l a b, 0 ≤ w
  | [], _, _, _, w, hw => by simp [comb] at hw
  | _ :: _, [], _, _, w, hw => by simp [comb] at hw
  | x :: a, y :: b, ha, hb, w, hw => by
    unfold comb at hw
    rw [List.zipWith_cons_cons] at hw
    rcases List.mem_cons.mp hw with rfl | hw
    · have n1 := Int.mul_nonneg (Int.le_of_lt hk) (ha x List.mem_cons_self)
      have n2 := Int.mul_nonneg (Int.le_of_lt hl) (hb y List.mem_cons_self)
      omega
    · exact comb_nn hk hl (fun w h => ha w (List.mem_cons_of_mem _ h)) (fun w h => hb w (List.mem_cons_of_mem _ h)) w hw
theorem WOk.sum {sys : Sy} {m : Nat} {lo hi : Rw} {k l : Int} (hk : 0 < k) (hl : 0 < l) (e : lo.2.1.length = hi.2.1.length) (a : WOk sys m lo) (b : WOk sys m hi) : WOk sys m (summedR lo hi k l) := by
  have el : lo.2.2.length = hi.2.2.length := a.len.trans b.len.symm
  refine ⟨(comb_len el).trans a.len, comb_nn hk hl a.nn b.nn, fun p hp => ?_, fun hs => ?_⟩
  · show (comb k l lo.2.1 hi.2.1).getD p 0 = dot (comb k l lo.2.2 hi.2.2) (colD sys p)
    rw [comb_get p e, dot_comb k l _ el, a.eq p hp, b.eq p hp]
  · refine zip_comb_pos hk hl el a.nn b.nn ?_
    have hs : (lo.1 || hi.1) = true := hs
    rw [Bool.or_eq_true] at hs
    exact hs.imp a.st b.st
theorem without_wok {sys : Sy} {rows : List Rw} {p m : Nat} (hl : ∀ r ∈ rows, r.2.1.length = m) (h : ∀ r ∈ rows, WOk sys m r) : ∀ r ∈ withoutR rows p, WOk sys m r := fun r hr => by
  rcases without_mem.mp hr with ⟨h1, _⟩ | ⟨lo, h1, hi, h2, h3, h4, rfl⟩
  · exact h r h1
  · exact WOk.sum (by omega) h3 ((hl lo h1).trans (hl hi h2).symm) (h lo h1) (h hi h2)
theorem LeanOk.wok {sys : Sy} {m : Nat} {rows out : List Rw} (h : LeanOk rows out) (hw : ∀ r ∈ rows, WOk sys m r) : ∀ r ∈ out, WOk sys m r := fun r hr => by
  obtain ⟨r0, h0, d, hd, e⟩ := h.of r hr
  exact WOk.scale hd (by rw [← e]; exact hw r0 h0)
/-! ### the places that are gone -/
structure Good (m k : Nat) (r : Rw) : Prop where
  len : r.2.1.length = m
  zero : ∀ p, m - k ≤ p → at0 r p = 0
theorem LeanOk.good {m k : Nat} {rows out : List Rw} (h : LeanOk rows out) (hw : ∀ r ∈ rows, Good m k r) : ∀ r ∈ out, Good m k r := fun r hr => by
  obtain ⟨r0, h0, d, hd, e⟩ := h.of r hr
  have g := hw r0 h0
  rw [e] at g
  refine ⟨by simpa using g.len, fun p hp => ?_⟩
  have z := g.zero p hp
  unfold at0 at z ⊢
  simp only at z
  rw [getD_mul] at z
  rcases Int.mul_eq_zero.mp z with z | z
  · omega
  · exact z
theorem without_good {m k : Nat} {rows : List Rw} (hk : k < m) (hw : ∀ r ∈ rows, Good m k r) : ∀ r ∈ withoutR rows (m - 1 - k), Good m (k + 1) r := fun r hr => by
  rcases without_mem.mp hr with ⟨h1, h2⟩ | ⟨lo, h1, hi, h2, h3, h4, rfl⟩
  · refine ⟨(hw r h1).len, fun p hp => ?_⟩
    by_cases z : p = m - 1 - k
    · rw [z]; exact h2
    · exact (hw r h1).zero p (by omega)
  · have e : lo.2.1.length = hi.2.1.length := (hw lo h1).len.trans (hw hi h2).len.symm
    refine ⟨(comb_len e).trans (hw lo h1).len, fun p hp => ?_⟩
    show (comb _ _ lo.2.1 hi.2.1).getD p 0 = 0
    rw [comb_get p e]
    by_cases z : p = m - 1 - k
    · rw [z]
      show -(at0 hi (m - 1 - k)) * at0 lo (m - 1 - k) + at0 lo (m - 1 - k) * at0 hi (m - 1 - k) = 0
      rw [Int.neg_mul, Int.mul_comm]
      omega
    · have z1 := (hw lo h1).zero p (by omega)
      have z2 := (hw hi h2).zero p (by omega)
      unfold at0 at z1 z2
      rw [z1, z2]
      simp
theorem dot_zero : ∀ {f x : List Int}, (∀ p, f.getD p 0 = 0) → dot f x = 0
  | [], _, _ => rfl
  | _ :: _, [], _ => dot_nil _
  | a :: f, x :: xs, h => by
    have h0 : a = 0 := by simpa using h 0
    have := dot_zero (f := f) (x := xs) fun p => by simpa using h (p + 1)
    simp [dot, h0, this]
/-- all places gone: a row holds just if it isn't strict -/
theorem good_all {m : Nat} {r : Rw} {x : List Int} (h : Good m m r) : Hd r.1 r.2.1 x ↔ r.1 = false := by
  have e : dot r.2.1 x = 0 := dot_zero fun p => h.zero p (by omega)
  unfold Hd
  rw [e]
  cases r.1 <;> simp
/-- the steps: s 0 of the first rows, s (k + 1) without one place more -/
structure Chain (m : Nat) (rows : List Rw) (s : Nat → List Rw) : Prop where
  zero : LeanOk rows (s 0)
  step : ∀ k, k < m → LeanOk (withoutR (s k) (m - 1 - k)) (s (k + 1))
theorem Chain.good {m : Nat} {rows : List Rw} {s : Nat → List Rw} (c : Chain m rows s) (h : ∀ r ∈ rows, r.2.1.length = m) : ∀ k, k ≤ m → ∀ r ∈ s k, Good m k r
  | 0, _ => c.zero.good fun r hr => ⟨h r hr, fun p hp => by
      unfold at0
      rw [List.getD_eq_getElem?_getD, List.getElem?_eq_none (by rw [h r hr]; omega)]
      rfl⟩
  | k + 1, hk => (c.step k hk).good (without_good hk (Chain.good c h k (by omega)))
theorem Chain.sound {m : Nat} {rows : List Rw} {s : Nat → List Rw} (c : Chain m rows s) (h : ∀ r ∈ rows, r.2.1.length = m) {x : List Int} (hx : ∀ r ∈ rows, Hd r.1 r.2.1 x) : ∀ k, k ≤ m → ∀ r ∈ s k, Hd r.1 r.2.1 x
  | 0, _ => c.zero.sound hx
  | k + 1, hk => (c.step k hk).sound (without_sound (fun r hr => (c.good h k (by omega) r hr).len) (Chain.sound c h hx k (by omega)))
theorem Chain.wok {m : Nat} {rows : List Rw} {s : Nat → List Rw} (c : Chain m rows s) (h : ∀ r ∈ rows, r.2.1.length = m) {sys : Sy} (hw : ∀ r ∈ rows, WOk sys m r) : ∀ k, k ≤ m → ∀ r ∈ s k, WOk sys m r
  | 0, _ => c.zero.wok hw
  | k + 1, hk => (c.step k hk).wok (without_wok (fun r hr => (c.good h k (by omega) r hr).len) (Chain.wok c h hw k (by omega)))
/-- one row of the first rows bars all x -/
theorem Chain.barred {m : Nat} {rows : List Rw} {s : Nat → List Rw} (c : Chain m rows s) (h : ∀ r ∈ rows, r.2.1.length = m) {r : Rw} (hr : r ∈ s m) (hs : r.1 = true) (x : List Int) : ¬ ∀ r ∈ rows, Hd r.1 r.2.1 x := fun hx => by
  have q := (good_all (c.good h m (Nat.le_refl m) r hr)).mp (c.sound h hx m (Nat.le_refl m) r hr)
  rw [hs] at q
  cases q
/-! ### the first rows -/
def unitV (n i : Nat) : List Int := (List.range n).map fun j => if j = i then 1 else 0
theorem dot_shift : ∀ (n i : Nat) (off : Nat) (c : List Int), c.length = n → dot ((List.range n).map fun j => if j + off = i + off then 1 else 0) c = c.getD i 0 := by
  intro n
  induction n with
  | zero => intro i off c h; cases c with
    | nil => simp [dot]
    | cons _ _ => simp at h
  | succ n ih =>
    intro i off c h
    cases c with
    | nil => simp at h
    | cons a c =>
      rw [List.range_succ_eq_map, List.map_cons, List.map_map]
      simp only [dot]
      cases i with
      | zero =>
        have : (List.range n).map ((fun j => if j + off = 0 + off then (1 : Int) else 0) ∘ Nat.succ) = (List.range n).map fun _ => (0 : Int) := List.map_congr_left fun j _ => by
          show (if j + 1 + off = 0 + off then (1 : Int) else 0) = 0
          rw [if_neg (by omega)]
        rw [this]
        have z : dot ((List.range n).map fun _ => (0 : Int)) c = 0 := dot_zero fun p => by
          rw [List.getD_eq_getElem?_getD, List.getElem?_map]
          cases (List.range n)[p]? <;> rfl
        rw [z]
        simp
      | succ i =>
        have e := ih i (off + 1) c (by simpa using h)
        have : (List.range n).map ((fun j => if j + off = i + 1 + off then (1 : Int) else 0) ∘ Nat.succ) = (List.range n).map fun j => if j + (off + 1) = i + (off + 1) then (1 : Int) else 0 := List.map_congr_left fun j _ => by
          show (if j + 1 + off = i + 1 + off then (1 : Int) else 0) = if j + (off + 1) = i + (off + 1) then 1 else 0
          by_cases q : j = i
          · rw [if_pos (by omega), if_pos (by omega)]
          · rw [if_neg (by omega), if_neg (by omega)]
        rw [this, e, if_neg (by omega)]
        simp
theorem dot_unit {n i : Nat} {c : List Int} (h : c.length = n) : dot (unitV n i) c = c.getD i 0 := by
  have := dot_shift n i 0 c h
  simpa [unitV] using this
theorem unit_nn {n i : Nat} : ∀ w ∈ unitV n i, (0 : Int) ≤ w := fun w hw => by
  obtain ⟨j, _, rfl⟩ := List.mem_map.mp hw
  split <;> decide
theorem unit_len {n i : Nat} : (unitV n i).length = n := by simp [unitV]
theorem unit_wok {sys : Sy} {m i : Nat} {q : Bool × List Int} (h : sys[i]? = some q) : WOk sys m (q.1, q.2, unitV sys.length i) := by
  have hi := (List.getElem?_eq_some_iff.mp h).1
  refine ⟨unit_len, unit_nn, fun p _ => ?_, fun hs => ?_⟩
  · show q.2.getD p 0 = dot (unitV sys.length i) (colD sys p)
    rw [dot_unit (by simp [colD])]
    unfold colD
    rw [List.getD_eq_getElem?_getD (l := List.map _ _), List.getElem?_map, h]
    rfl
  · refine ⟨(1, q), ?_, (by show (0 : Int) < 1; decide), hs⟩
    refine List.mem_iff_getElem?.mpr ⟨i, ?_⟩
    rw [List.getElem?_zip_eq_some]
    exact ⟨by simp [unitV, hi], h⟩
end Lw

/-! Calls by their values. -/
namespace Lw
open Dt PySem
theorem line1' : (1 : Nat) ≤ sizeLine := line_pos (by decide)
theorem call1 {g : List D → FR} {s : SE} {ρ ρ' : Dt.Env} {d z : D} {o : List D} (a : s ρ = .ok d ρ') (e : g [d] = .ok z o) : sCallP 1 g (sCons s sNil) ρ = .ok z ρ' := by simp [a, e]
theorem call2 {g : List D → FR} {s t : SE} {ρ ρ' ρ2 : Dt.Env} {d d2 z : D} {o : List D} (a : s ρ = .ok d ρ') (b : t ρ' = .ok d2 ρ2) (e : g [d, d2] = .ok z o) : sCallP 2 g (sCons s (sCons t sNil)) ρ = .ok z ρ2 := by simp [a, b, e]
theorem call4 {g : List D → FR} {s t u v : SE} {ρ ρ1 ρ2 ρ3 ρ4 : Dt.Env} {d d2 d3 d4 z : D} {o : List D} (a : s ρ = .ok d ρ1) (b : t ρ1 = .ok d2 ρ2) (c : u ρ2 = .ok d3 ρ3) (f : v ρ3 = .ok d4 ρ4) (e : g [d, d2, d3, d4] = .ok z o) : sCallP 4 g (sCons s (sCons t (sCons u (sCons v sNil)))) ρ = .ok z ρ4 := by simp [a, b, c, f, e]
end Lw

/-! divisor_of: the greatest common divisor. -/
namespace Lw
open Dt PySem
def gcdL (ns : List Int) : Nat := ns.foldl (fun a n => Nat.gcd n.natAbs a) 0
theorem div_turn (c0 c1 c2 : Cell) {a b : Nat} (ha : 0 < a) : t0_divisor_of [c0, c1, c2, .fro (.int (a : Nat)), .fro (.int (b : Nat))] = .ok .nx [c0, c1, c2, .fro (.int ((b % a : Nat) : Int)), .fro (.int (a : Nat))] := by
  have h1 : (0 : Int) < (a : Int) := by omega
  unfold t0_divisor_of
  simp [gMod, gI, ha]
theorem div_while (c0 c1 c2 : Cell) : ∀ (m a b : Nat), a ≤ m → ∃ n, sWhile (sTst (sOps gGt (b2 (sLoc 3) (sVal (sCst (.int 0)))))) t0_divisor_of n [c0, c1, c2, .fro (.int (a : Nat)), .fro (.int (b : Nat))] = .ok .nx [c0, c1, c2, .fro (.int 0), .fro (.int ((Nat.gcd a b : Nat) : Int))]
  | m, 0, b, _ => ⟨1, by unfold sWhile; simp [gGt, lexI]⟩
  | 0, a + 1, b, h => by omega
  | m + 1, a + 1, b, h => by
    obtain ⟨n, e⟩ := div_while c0 c1 c2 m (b % (a + 1)) (a + 1) (by have : b % (a + 1) < a + 1 := Nat.mod_lt b (Nat.succ_pos a); omega)
    refine ⟨n + 1, ?_⟩
    have h1 : (0 : Int) < ((a + 1 : Nat) : Int) := by omega
    have ht : sTst (sOps gGt (b2 (sLoc 3) (sVal (sCst (.int 0))))) [c0, c1, c2, .fro (.int ((a + 1 : Nat) : Int)), .fro (.int (b : Nat))] = .ok true [c0, c1, c2, .fro (.int ((a + 1 : Nat) : Int)), .fro (.int (b : Nat))] := by
      have h2 : (0 : Int) < (a : Int) + 1 := by omega
      simp [gGt, lexI, h2]
    unfold sWhile
    rw [ht, R.bind_ok]
    show (t0_divisor_of _).bind _ = _
    rw [div_turn c0 c1 c2 (Nat.succ_pos a), R.bind_ok]
    show sWhile _ _ n _ = _
    rw [e, Nat.gcd_rec (a + 1) b]
theorem div_body (c0 c3 c4 : Cell) {g : Nat} {i : Int} (h3 : ∀ d, c3 ≠ .io d) (h4 : ∀ d, c4 ≠ .io d) : t1_divisor_of [c0, .fro (.int (g : Nat)), .fro (.int i), c3, c4] = .ok .nx [c0, .fro (.int ((Nat.gcd i.natAbs g : Nat) : Int)), .fro (.int i), .fro (.int 0), .fro (.int ((Nat.gcd i.natAbs g : Nat) : Int))] := by
  obtain ⟨n, e⟩ := div_while c0 (.fro (.int (g : Nat))) (.fro (.int i)) i.natAbs i.natAbs g (Nat.le_refl _)
  have e2 : w0_divisor_of [c0, .fro (.int (g : Nat)), .fro (.int i), .fro (.int ((i.natAbs : Nat) : Int)), .fro (.int (g : Nat))] = _ := while_T e (by simp)
  have ea : (if i < 0 then -i else i) = ((i.natAbs : Nat) : Int) := by split <;> omega
  have e0 : sPar 3 4 (sCons (sOps gAbs (bCons (sLoc 2) bNil)) (sCons (sVar 1) sNil)) [c0, .fro (.int (g : Nat)), .fro (.int i), c3, c4] = .ok .nx [c0, .fro (.int (g : Nat)), .fro (.int i), .fro (.int ((i.natAbs : Nat) : Int)), .fro (.int (g : Nat))] := by
    cases c3 <;> cases c4 <;> first | exact absurd rfl (h3 _) | exact absurd rfl (h4 _) | simp [gAbs, ea]
  unfold t1_divisor_of
  rw [ev_seq, e0, R.bind_ok, ev_seq, e2, R.bind_ok]
  simp
theorem div_loop (c0 : Cell) : ∀ {ns : List Int} {g : Nat} {c2 c3 c4 : Cell}, (∀ d, c2 ≠ .io d) → (∀ d, c3 ≠ .io d) → (∀ d, c4 ≠ .io d) → ∃ c2' c3' c4', forGo (gSet 2) t1_divisor_of (ns.map D.int) [c0, .fro (.int (g : Nat)), c2, c3, c4] = .ok .nx [c0, .fro (.int ((ns.foldl (fun a n => Nat.gcd n.natAbs a) g : Nat) : Int)), c2', c3', c4']
  | [], g, c2, c3, c4, _, _, _ => ⟨c2, c3, c4, rfl⟩
  | i :: ns, g, c2, c3, c4, h2, h3, h4 => by
    obtain ⟨a, b, c, e⟩ := div_loop c0 (ns := ns) (g := Nat.gcd i.natAbs g) (c2 := .fro (.int i)) (c3 := .fro (.int 0)) (c4 := .fro (.int ((Nat.gcd i.natAbs g : Nat) : Int))) (by simp) (by simp) (by simp)
    refine ⟨a, b, c, ?_⟩
    have eg : gSet 2 (.int i) [c0, .fro (.int (g : Nat)), c2, c3, c4] = .ok () [c0, .fro (.int (g : Nat)), .fro (.int i), c3, c4] := by
      cases c2 <;> first | exact absurd rfl (h2 _) | simp
    rw [List.map_cons]
    unfold forGo
    rw [eg, R.bind_ok, div_body c0 c3 c4 h3 h4, R.bind_ok]
    exact e
theorem div_ok {d : D} {ns : List Int} (h : d = .tup (ns.map .int) ∨ d = .lst (ns.map .int)) : m_divisor_of [d] = .ok (.int (gcdL ns : Nat)) [] := by
  have hi : itemsD d = some (ns.map .int) := by rcases h with rfl | rfl <;> rfl
  show runP 5 1 b_divisor_of _ = _
  obtain ⟨a, b, c, e⟩ := div_loop (.fro d) (ns := ns) (g := 0) (c2 := .no) (c3 := .no) (c4 := .no) (by simp) (by simp) (by simp)
  have e : forGo (gSet 2) t1_divisor_of (ns.map D.int) [.fro d, .fro (.int 0), .no, .no, .no] = .ok .nx [.fro d, .fro (.int (gcdL ns : Nat)), a, b, c] := e
  unfold runP b_divisor_of l0_divisor_of sFor
  simp [hi, e]
/-! ### what it divides -/
theorem natDvd_mpr {k : Nat} {n : Int} (h : k ∣ n.natAbs) : (k : Int) ∣ n := Int.ofNat_dvd_left.mpr h
theorem natDvd_mp {k : Nat} {n : Int} (h : (k : Int) ∣ n) : k ∣ n.natAbs := Int.ofNat_dvd_left.mp h
theorem gcd_fold : ∀ (ns : List Int) (g : Nat), ((ns.foldl (fun a n => Nat.gcd n.natAbs a) g : Nat) ∣ g) ∧ ∀ n ∈ ns, ((ns.foldl (fun a n => Nat.gcd n.natAbs a) g : Nat) : Int) ∣ n
  | [], g => ⟨Nat.dvd_refl g, fun n hn => nomatch hn⟩
  | i :: ns, g => by
    obtain ⟨h1, h2⟩ := gcd_fold ns (Nat.gcd i.natAbs g)
    refine ⟨Nat.dvd_trans h1 (Nat.gcd_dvd_right _ _), fun n hn => ?_⟩
    rcases List.mem_cons.mp hn with rfl | hn
    · exact natDvd_mpr (Nat.dvd_trans h1 (Nat.gcd_dvd_left _ _))
    · exact h2 n hn
theorem gcd_dvd {ns : List Int} {n : Int} (h : n ∈ ns) : (gcdL ns : Int) ∣ n := (gcd_fold ns 0).2 n h
theorem gcd_zero {ns : List Int} (h : gcdL ns = 0) : ∀ n ∈ ns, n = 0 := fun n hn => by
  have := gcd_dvd hn
  rw [h] at this
  exact Int.zero_dvd.mp this
theorem gcd_le {ns : List Int} {b : Nat} (h : ∀ n ∈ ns, n.natAbs ≤ b) : gcdL ns ≤ b := by
  by_cases z : ∀ n ∈ ns, n = 0
  · have : gcdL ns = 0 := by
      unfold gcdL
      have go : ∀ (ns : List Int), (∀ n ∈ ns, n = 0) → ns.foldl (fun a n => Nat.gcd n.natAbs a) 0 = 0 := by
        intro ns
        induction ns with
        | nil => intro _; rfl
        | cons a ns ih =>
          intro hz
          rw [List.foldl_cons, hz a List.mem_cons_self]
          exact ih fun n hn => hz n (List.mem_cons_of_mem _ hn)
      exact go ns z
    omega
  · have : ∃ n ∈ ns, n ≠ 0 := by
      refine Classical.byContradiction fun q => z fun n hn => ?_
      exact Classical.byContradiction fun w => q ⟨n, hn, w⟩
    obtain ⟨n, hn, h0⟩ := this
    have d := natDvd_mp (gcd_dvd hn)
    have := Nat.le_of_dvd (by omega) d
    have := h n hn
    omega
/-- max(1, divisor) -/
def big1 (ns : List Int) : Int := if (gcdL ns : Int) > 1 then (gcdL ns : Int) else 1
theorem big1_pos (ns : List Int) : 0 < big1 ns := by unfold big1; split <;> omega
theorem big1_dvd {ns : List Int} {n : Int} (h : n ∈ ns) : big1 ns ∣ n := by
  unfold big1
  split
  · exact gcd_dvd h
  · exact Int.one_dvd n
theorem big1_le {ns : List Int} {b : Nat} (hb : 1 ≤ b) (h : ∀ n ∈ ns, n.natAbs ≤ b) : (big1 ns).natAbs ≤ b := by
  have := gcd_le h
  unfold big1
  split <;> omega
end Lw

/-! lean: rows in lowest terms, one of each form. -/
namespace Lw
open Dt PySem
def intsD (f : List Int) : D := .tup (f.map .int)
def rowD (r : Rw) : D := .tup [.bl r.1, intsD r.2.1, intsD r.2.2]
theorem int_inj : ∀ {f g : List Int}, f.map D.int = g.map D.int → f = g
  | [], [], _ => rfl
  | [], _ :: _, h => by simp at h
  | _ :: _, [], h => by simp at h
  | a :: f, b :: g, h => by
    simp only [List.map_cons, List.cons.injEq, D.int.injEq] at h
    rw [h.1, int_inj h.2]
theorem rowD_inj {r s : Rw} (h : rowD r = rowD s) : r = s := by
  obtain ⟨a, f, w⟩ := r
  obtain ⟨b, g, v⟩ := s
  simp only [rowD, intsD, D.tup.injEq, List.cons.injEq, D.bl.injEq, and_true] at h
  rw [h.1, int_inj h.2.1, int_inj h.2.2]
def RowB (b : Nat) (r : Rw) : Prop := (∀ x ∈ r.2.1, x.natAbs ≤ 2 ^ b) ∧ ∀ x ∈ r.2.2, x.natAbs ≤ 2 ^ b
theorem log_le {n b : Nat} (h : n ≤ 2 ^ b) : n.log2 ≤ b := by
  by_cases z : n = 0
  · subst z; exact Nat.zero_le _
  · have : n < 2 ^ (b + 1) := by rw [Nat.pow_succ]; have := Nat.two_pow_pos b; omega
    have := (Nat.log2_lt z).mpr this
    omega
/-! ### comprehensions over numbers -/
theorem comp_ints {vs : List Nat} {g : SG} {s : SE} {F : Int → Int} {ρ : Dt.Env} : ∀ {xs : List Int}, (∀ x ∈ xs, ∃ ρ2 ρ3, g (.int x) ρ = .ok () ρ2 ∧ s ρ2 = .ok (.int (F x)) ρ3 ∧ plainAt ρ3 vs = true ∧ wipeE ρ3 vs = ρ) → compGo vs g tT1 s (xs.map D.int) ρ = .ok (xs.map fun x => .int (F x)) ρ
  | [], _ => rfl
  | x :: xs, h => by
    obtain ⟨ρ2, ρ3, e1, e2, e3, e4⟩ := h x List.mem_cons_self
    rw [List.map_cons]
    unfold compGo
    rw [e1, R.bind_ok, ev_tT1, R.bind_ok]
    show (s ρ2).bind _ = _
    rw [e2, R.bind_ok, if_pos e3, e4, comp_ints (fun y hy => h y (List.mem_cons_of_mem _ hy)), R.bind_ok, List.map_cons]
theorem comp_ex {β : Type} {enc : β → D} {P : D → β → Prop} {vs : List Nat} {g : SG} {s : SE} {ρ : Dt.Env} : ∀ {ds : List D}, (∀ d ∈ ds, ∃ ρ2 ρ3 r, g d ρ = .ok () ρ2 ∧ s ρ2 = .ok (enc r) ρ3 ∧ plainAt ρ3 vs = true ∧ wipeE ρ3 vs = ρ ∧ P d r) →
    ∃ rs : List β, compGo vs g tT1 s ds ρ = .ok (rs.map enc) ρ ∧ rs.length = ds.length ∧ (∀ r ∈ rs, ∃ d ∈ ds, P d r) ∧ ∀ d ∈ ds, ∃ r ∈ rs, P d r
  | [], _ => ⟨[], rfl, rfl, (fun r h => nomatch h), fun r h => nomatch h⟩
  | d :: ds, h => by
    obtain ⟨ρ2, ρ3, r, e1, e2, e3, e4, p⟩ := h d List.mem_cons_self
    obtain ⟨rs, i1, i2, i3, i4⟩ := comp_ex (fun y hy => h y (List.mem_cons_of_mem _ hy))
    refine ⟨r :: rs, ?_, by simp [i2], fun q hq => ?_, fun q hq => ?_⟩
    · unfold compGo
      rw [e1, R.bind_ok, ev_tT1, R.bind_ok]
      show (s ρ2).bind _ = _
      rw [e2, R.bind_ok, if_pos e3, e4, i1, R.bind_ok, List.map_cons]
    · rcases List.mem_cons.mp hq with rfl | hq
      · exact ⟨d, List.mem_cons_self, p⟩
      · obtain ⟨d', h1, h2⟩ := i3 q hq
        exact ⟨d', List.mem_cons_of_mem _ h1, h2⟩
    · rcases List.mem_cons.mp hq with rfl | hq
      · exact ⟨r, List.mem_cons_self, p⟩
      · obtain ⟨r', h1, h2⟩ := i4 q hq
        exact ⟨r', List.mem_cons_of_mem _ h1, h2⟩
theorem scomp_ok {vs : List Nat} {it : SA} {g : SG} {t : ST} {s : SE} {ρ0 ρ : Dt.Env} {ds zs : List D} (hi : it ρ0 = .ok ds ρ) (hp : plainAt ρ vs = true) (hl : ds.length ≤ sizeLine) (hw : wipeE ρ vs = ρ) (e : compGo vs g t s ds ρ = .ok zs ρ) (hb : backE ρ ρ vs = ρ) : sComp vs it g t s ρ0 = .ok (.lst zs) ρ := by
  unfold sComp
  rw [hi, R.bind_ok, if_pos ⟨hp, hl⟩, hw, e, noX_ok, R.bind_ok, hb]
/-! ### the parts of lean -/
def Small (d : Int) : Prop := 0 < d ∧ d.natAbs.log2 < 9000
theorem cdiv {i d : Int} (h : Small d) : L2.CDivW i d := h
theorem lean_c0 {c0 c1 c2 c4 c6 c7 : Cell} {f : List Int} {d : Int} (hf : f.length ≤ 1000) (hd : Small d) : c0_lean [c0, c1, c2, .fro (intsD f), c4, .fro (.int d), c6, c7, .no] = .ok (.lst (f.map fun x => .int (x / d))) [c0, c1, c2, .fro (intsD f), c4, .fro (.int d), c6, c7, .no] := by
  have e := comp_ints (vs := [8]) (g := gSet 8) (s := sOps gDiv (b2 (sLoc 8) (sLoc 5))) (F := fun x => x / d) (ρ := [c0, c1, c2, .fro (intsD f), c4, .fro (.int d), c6, c7, .no]) (xs := f)
    (fun x _ => ⟨[c0, c1, c2, .fro (intsD f), c4, .fro (.int d), c6, c7, .fro (.int x)], [c0, c1, c2, .fro (intsD f), c4, .fro (.int d), c6, c7, .fro (.int x)], by simp, by simp [gDiv, gI, cdiv hd], by simp [plainAt], by simp [wipeE]⟩)
  have hl : f.length ≤ sizeLine := line_pos (by omega)
  exact scomp_ok (by simp [intsD, itemsD]) (by simp [plainAt]) (by simpa using hl) (by simp [wipeE]) e (by simp [backE])
theorem lean_c1 {c0 c1 c2 c3 c6 c7 : Cell} {f : List Int} {d : Int} (hf : f.length ≤ 1000) (hd : Small d) : c1_lean [c0, c1, c2, c3, .fro (intsD f), .fro (.int d), c6, c7, .no] = .ok (.lst (f.map fun x => .int (x / d))) [c0, c1, c2, c3, .fro (intsD f), .fro (.int d), c6, c7, .no] := by
  have e := comp_ints (vs := [8]) (g := gSet 8) (s := sOps gDiv (b2 (sLoc 8) (sLoc 5))) (F := fun x => x / d) (ρ := [c0, c1, c2, c3, .fro (intsD f), .fro (.int d), c6, c7, .no]) (xs := f)
    (fun x _ => ⟨[c0, c1, c2, c3, .fro (intsD f), .fro (.int d), c6, c7, .fro (.int x)], [c0, c1, c2, c3, .fro (intsD f), .fro (.int d), c6, c7, .fro (.int x)], by simp, by simp [gDiv, gI, cdiv hd], by simp [plainAt], by simp [wipeE]⟩)
  have hl : f.length ≤ sizeLine := line_pos (by omega)
  exact scomp_ok (by simp [intsD, itemsD]) (by simp [plainAt]) (by simpa using hl) (by simp [wipeE]) e (by simp [backE])
theorem lean_c2 {c0 c1 c2 c4 c5 c7 : Cell} {f : List Int} {d : Int} (hf : f.length ≤ 1000) (hd : Small d) : c2_lean [c0, c1, c2, .fro (intsD f), c4, c5, .fro (.int d), c7, .no] = .ok (.lst (f.map fun x => .int (x / d))) [c0, c1, c2, .fro (intsD f), c4, c5, .fro (.int d), c7, .no] := by
  have e := comp_ints (vs := [8]) (g := gSet 8) (s := sOps gDiv (b2 (sLoc 8) (sLoc 6))) (F := fun x => x / d) (ρ := [c0, c1, c2, .fro (intsD f), c4, c5, .fro (.int d), c7, .no]) (xs := f)
    (fun x _ => ⟨[c0, c1, c2, .fro (intsD f), c4, c5, .fro (.int d), c7, .fro (.int x)], [c0, c1, c2, .fro (intsD f), c4, c5, .fro (.int d), c7, .fro (.int x)], by simp, by simp [gDiv, gI, cdiv hd], by simp [plainAt], by simp [wipeE]⟩)
  have hl : f.length ≤ sizeLine := line_pos (by omega)
  exact scomp_ok (by simp [intsD, itemsD]) (by simp [plainAt]) (by simpa using hl) (by simp [wipeE]) e (by simp [backE])
def normR (r : Rw) : Rw := (r.1, r.2.1.map (· / big1 (r.2.1 ++ r.2.2)), r.2.2.map (· / big1 (r.2.1 ++ r.2.2)))
def keyR (r : Rw) : D := if (gcdL r.2.1 : Int) > 0 then .tup (r.2.1.map fun x => .int (x / (gcdL r.2.1 : Int))) else .tup [intsD r.2.1, .bl r.1]
def kapN (r : Rw) : NestedKey := if (gcdL r.2.1 : Int) > 0 then .tup (r.2.1.map fun x => .num (x / (gcdL r.2.1 : Int))) else .tup [.tup (r.2.1.map .num), .num (if r.1 = true then 1 else 0)]
theorem nks_ints (g : Int → Int) : ∀ f : List Int, nks (f.map fun x => .int (g x)) = some (f.map fun x => .num (g x))
  | [] => rfl
  | a :: f => by
    rw [List.map_cons, List.map_cons]
    simp only [nks, nk, Option.bind_some]
    rw [nks_ints g f]
    rfl
theorem depth_ints (g : Int → Int) : ∀ f : List Int, NestedKey.depthAll (f.map fun x => .num (g x)) = 0
  | [] => rfl
  | a :: f => by
    rw [List.map_cons]
    simp only [NestedKey.depthAll, NestedKey.depth]
    rw [depth_ints g f]
    rfl
theorem key_kap (r : Rw) : nkey (keyR r) = some (kapN r) := by
  unfold keyR kapN
  split
  · simp only [nkey, nk]
    rw [nks_ints]
    simp [NestedKey.depth, depth_ints]
  · have e : nks (r.2.1.map D.int) = some (r.2.1.map .num) := nks_ints id r.2.1
    have e2 : NestedKey.depthAll (r.2.1.map .num) = 0 := depth_ints id r.2.1
    simp only [nkey, nk, nks, intsD, e]
    simp [NestedKey.depth, NestedKey.depthAll, e2]
/-! ### one row more -/
def goes (ks vs : List D) (r : Rw) : Prop := ndLook ks vs (kapN r) = none ∨ (r.1 = true ∧ ∃ q : Rw, ndLook ks vs (kapN r) = some (rowD q) ∧ q.1 = false)
theorem big_small {r : Rw} {b : Nat} (hb : b ≤ 5000) (h : RowB b r) : Small (big1 (r.2.1 ++ r.2.2)) := by
  refine ⟨big1_pos _, ?_⟩
  have h1 := big1_le (ns := r.2.1 ++ r.2.2) (b := 2 ^ b) (Nat.two_pow_pos b) (fun n hn => (List.mem_append.mp hn).elim (h.1 n) (h.2 n))
  have := log_le h1
  omega
theorem div_le {x d : Int} {m : Nat} (hd : 0 < d) (hx : d ∣ x) (h : x.natAbs ≤ m) : (x / d).natAbs ≤ m := by
  obtain ⟨k, rfl⟩ := hx
  rw [Int.mul_ediv_cancel_left _ (Int.ne_of_gt hd)]
  rw [Int.natAbs_mul] at h
  have : 1 ≤ d.natAbs := by omega
  have : 1 * k.natAbs ≤ d.natAbs * k.natAbs := Nat.mul_le_mul_right _ this
  omega
theorem norm_b {r : Rw} {b : Nat} (h : RowB b r) : RowB b (normR r) := by
  refine ⟨fun x hx => ?_, fun x hx => ?_⟩
  · obtain ⟨y, hy, rfl⟩ := List.mem_map.mp hx
    exact div_le (big1_pos _) (big1_dvd (List.mem_append_left _ hy)) (h.1 y hy)
  · obtain ⟨y, hy, rfl⟩ := List.mem_map.mp hx
    exact div_le (big1_pos _) (big1_dvd (List.mem_append_right _ hy)) (h.2 y hy)
theorem norm_eq (r : Rw) : r = ((normR r).1, (normR r).2.1.map (big1 (r.2.1 ++ r.2.2) * ·), (normR r).2.2.map (big1 (r.2.1 ++ r.2.2) * ·)) := by
  obtain ⟨s, f, w⟩ := r
  have go : ∀ g : List Int, (∀ x ∈ g, big1 (f ++ w) ∣ x) → (g.map (· / big1 (f ++ w))).map (big1 (f ++ w) * ·) = g := fun g hg => by
    rw [List.map_map]
    refine (List.map_congr_left fun x hx => ?_).trans (List.map_id g)
    exact Int.mul_ediv_cancel' (hg x hx)
  simp only [normR]
  rw [go f (fun x hx => big1_dvd (List.mem_append_left _ hx)), go w (fun x hx => big1_dvd (List.mem_append_right _ hx))]
end Lw

/-! lean: one row, all rows. -/
namespace Lw
open Dt PySem
theorem lean_s1 {c0 c1 c2 c5 c6 c7 : Cell} {f w : List Int} (hf : f.length + w.length ≤ 1000) (h5 : ∀ d, c5 ≠ .io d) :
    sAsg (gSet 5) (sOps gMax2 (bCons (sVal (sCst (.int 1))) (bCons (sVal (sCallP 1 (m_divisor_of) (sCons (sOps gAdd (b2 (sLoc 3) (sLoc 4))) sNil))) bNil))) [c0, c1, c2, .fro (intsD f), .fro (intsD w), c5, c6, c7, .no] =
      .ok .nx [c0, c1, c2, .fro (intsD f), .fro (intsD w), .fro (.int (big1 (f ++ w))), c6, c7, .no] := by
  have e := div_ok (d := .tup (f.map D.int ++ w.map D.int)) (ns := f ++ w) (.inl (by rw [List.map_append]))
  have hl : f.length + w.length ≤ sizeLine := line_pos (by omega)
  have a : sOps gAdd (b2 (sLoc 3) (sLoc 4)) [c0, c1, c2, .fro (intsD f), .fro (intsD w), c5, c6, c7, .no] = .ok (.tup (f.map D.int ++ w.map D.int)) [c0, c1, c2, .fro (intsD f), .fro (intsD w), c5, c6, c7, .no] := by
    simp [intsD, gAdd, hl]
  have b : sOps gMax2 (bCons (sVal (sCst (.int 1))) (bCons (sVal (sCallP 1 (m_divisor_of) (sCons (sOps gAdd (b2 (sLoc 3) (sLoc 4))) sNil))) bNil)) [c0, c1, c2, .fro (intsD f), .fro (intsD w), c5, c6, c7, .no] = .ok (.int (big1 (f ++ w))) [c0, c1, c2, .fro (intsD f), .fro (intsD w), c5, c6, c7, .no] := by
    have c : sCallP 1 (m_divisor_of) (sCons (sOps gAdd (b2 (sLoc 3) (sLoc 4))) sNil) [c0, c1, c2, .fro (intsD f), .fro (intsD w), c5, c6, c7, .no] = .ok (.int (gcdL (f ++ w) : Nat)) [c0, c1, c2, .fro (intsD f), .fro (intsD w), c5, c6, c7, .no] := by
      exact call1 a e
    simp [-ev_callP, c, gMax2, big1]
  rw [ev_asg, b, R.bind_ok]
  cases c5 <;> first | exact absurd rfl (h5 _) | simp
theorem lean_s2 {c0 c1 c2 c4 c6 c7 : Cell} {f : List Int} {d : Int} (hf : f.length ≤ 1000) (hd : Small d) : sAsg (gSet 3) (sOps gTuple (bCons (sVal c0_lean) bNil)) [c0, c1, c2, .fro (intsD f), c4, .fro (.int d), c6, c7, .no] = .ok .nx [c0, c1, c2, .fro (intsD (f.map (· / d))), c4, .fro (.int d), c6, c7, .no] := by
  rw [ev_asg, ev_ops, ev_bcons, ev_val, lean_c0 hf hd]
  simp [gTuple, intsD, Function.comp_def]
theorem lean_s3 {c0 c1 c2 c3 c6 c7 : Cell} {f : List Int} {d : Int} (hf : f.length ≤ 1000) (hd : Small d) : sAsg (gSet 4) (sOps gTuple (bCons (sVal c1_lean) bNil)) [c0, c1, c2, c3, .fro (intsD f), .fro (.int d), c6, c7, .no] = .ok .nx [c0, c1, c2, c3, .fro (intsD (f.map (· / d))), .fro (.int d), c6, c7, .no] := by
  rw [ev_asg, ev_ops, ev_bcons, ev_val, lean_c1 hf hd]
  simp [gTuple, intsD, Function.comp_def]
theorem lean_s4 {c0 c1 c2 c4 c5 c6 c7 : Cell} {f : List Int} (h6 : ∀ d, c6 ≠ .io d) : sAsg (gSet 6) (sCallP 1 (m_divisor_of) (sCons (sVar 3) sNil)) [c0, c1, c2, .fro (intsD f), c4, c5, c6, c7, .no] = .ok .nx [c0, c1, c2, .fro (intsD f), c4, c5, .fro (.int (gcdL f : Nat)), c7, .no] := by
  have e := div_ok (d := intsD f) (ns := f) (.inl rfl)
  cases c6 <;> first | exact absurd rfl (h6 _) | simp [e]
theorem lean_s5 {c0 c1 c4 c5 c7 : Cell} {s : Bool} {f w : List Int} (hf : f.length ≤ 1000) (hd : ((gcdL f : Nat) : Int) > 0 → Small (gcdL f : Nat)) (h7 : ∀ d, c7 ≠ .io d) :
    sAsg (gSet 7) (sIf (sTst (sOps gGt (b2 (sLoc 6) (sVal (sCst (.int 0)))))) (sOps gTuple (bCons (sVal c2_lean) bNil)) (sTup (sCons (sVar 3) (sCons (sVar 2) sNil)))) [c0, c1, .fro (.bl s), .fro (intsD f), c4, c5, .fro (.int (gcdL f : Nat)), c7, .no] =
      .ok .nx [c0, c1, .fro (.bl s), .fro (intsD f), c4, c5, .fro (.int (gcdL f : Nat)), .fro (keyR (s, f, w)), .no] := by
  have ht : sTst (sOps gGt (b2 (sLoc 6) (sVal (sCst (.int 0))))) [c0, c1, .fro (.bl s), .fro (intsD f), c4, c5, .fro (.int (gcdL f : Nat)), c7, .no] = .ok (decide ((0 : Int) < (gcdL f : Nat))) [c0, c1, .fro (.bl s), .fro (intsD f), c4, c5, .fro (.int (gcdL f : Nat)), c7, .no] := by
    simp [gGt, lexI]
  rw [ev_asg, ev_if, ht, R.bind_ok]
  by_cases z : (0 : Int) < (gcdL f : Nat)
  · have e := lean_c2 (c0 := c0) (c1 := c1) (c2 := .fro (.bl s)) (c4 := c4) (c5 := c5) (c7 := c7) hf (hd z)
    have ek : keyR (s, f, w) = .tup (f.map fun x => .int (x / (gcdL f : Int))) := if_pos z
    rw [decide_eq_true z]
    show (sOps gTuple (bCons (sVal c2_lean) bNil) _).bind _ = _
    rw [ev_ops, ev_bcons, ev_val, e, ek]
    cases c7 <;> first | exact absurd rfl (h7 _) | simp [gTuple]
  · have ek : keyR (s, f, w) = .tup [intsD f, .bl s] := if_neg z
    rw [decide_eq_false z, ek]
    show (sTup (sCons (sVar 3) (sCons (sVar 2) sNil)) _).bind _ = _
    cases c7 <;> first | exact absurd rfl (h7 _) | simp [line2]
theorem line3 : (3 : Nat) ≤ sizeLine := line_pos (by decide)
theorem idx_row0 (r : Rw) : gIdx [rowD r, .int 0] = some (.bl r.1) := rfl
theorem lean_s6 {c0 c5 c6 : Cell} {r : Rw} {ks vs : List D} (hl : ks.length ≤ sizeLine) (hv : ∀ v, ndLook ks vs (kapN r) = some v → ∃ q : Rw, v = rowD q) :
    ∃ ks' vs', ((goes ks vs r ∧ ks' = (ndPut ks vs (keyR r) (kapN r) (rowD r)).1 ∧ vs' = (ndPut ks vs (keyR r) (kapN r) (rowD r)).2) ∨ (¬ goes ks vs r ∧ ks' = ks ∧ vs' = vs)) ∧
    (sIfS (tOrS (sTst (sOps gNotInN (b2 (sLoc 7) (sLoc 1)))) (tAndS (sTru (sLoc 2)) (tNotS (sTru (sVal (sOps gIdx (b2 (sVal (sOps gIdxN (b2 (sLoc 1) (sLoc 7)))) (sVal (sCst (.int 0)))))))))) (sAsg (gPutN 1 (sLoc 7)) (sTup (sCons (sVar 2) (sCons (sVar 3) (sCons (sVar 4) sNil))))) sNx)
      [c0, .own (.nd ks vs), .fro (.bl r.1), .fro (intsD r.2.1), .fro (intsD r.2.2), c5, c6, .fro (keyR r), .no] =
      .ok .nx [c0, .own (.nd ks' vs'), .fro (.bl r.1), .fro (intsD r.2.1), .fro (intsD r.2.2), c5, c6, .fro (keyR r), .no] := by
  have hk := key_kap r
  have put : sAsg (gPutN 1 (sLoc 7)) (sTup (sCons (sVar 2) (sCons (sVar 3) (sCons (sVar 4) sNil)))) [c0, .own (.nd ks vs), .fro (.bl r.1), .fro (intsD r.2.1), .fro (intsD r.2.2), c5, c6, .fro (keyR r), .no] =
      .ok .nx [c0, .own (.nd (ndPut ks vs (keyR r) (kapN r) (rowD r)).1 (ndPut ks vs (keyR r) (kapN r) (rowD r)).2), .fro (.bl r.1), .fro (intsD r.2.1), .fro (intsD r.2.2), c5, c6, .fro (keyR r), .no] := by
    simp [line3, putN, hk, hl, rowD]
  have t1 : sTst (sOps gNotInN (b2 (sLoc 7) (sLoc 1))) [c0, .own (.nd ks vs), .fro (.bl r.1), .fro (intsD r.2.1), .fro (intsD r.2.2), c5, c6, .fro (keyR r), .no] = .ok (!(ndLook ks vs (kapN r)).isSome) [c0, .own (.nd ks vs), .fro (.bl r.1), .fro (intsD r.2.1), .fro (intsD r.2.2), c5, c6, .fro (keyR r), .no] := by
    simp [gNotInN, hk]
  have t2 : sTru (sLoc 2) [c0, .own (.nd ks vs), .fro (.bl r.1), .fro (intsD r.2.1), .fro (intsD r.2.2), c5, c6, .fro (keyR r), .no] = .ok r.1 [c0, .own (.nd ks vs), .fro (.bl r.1), .fro (intsD r.2.1), .fro (intsD r.2.2), c5, c6, .fro (keyR r), .no] := by
    simp
  rw [ev_ifS, ev_or, t1, R.bind_ok]
  cases el : ndLook ks vs (kapN r) with
  | none =>
    refine ⟨_, _, .inl ⟨.inl el, rfl, rfl⟩, ?_⟩
    exact put
  | some v =>
    obtain ⟨q, rfl⟩ := hv v el
    have t3 : tNotS (sTru (sVal (sOps gIdx (b2 (sVal (sOps gIdxN (b2 (sLoc 1) (sLoc 7)))) (sVal (sCst (.int 0))))))) [c0, .own (.nd ks vs), .fro (.bl r.1), .fro (intsD r.2.1), .fro (intsD r.2.2), c5, c6, .fro (keyR r), .no] = .ok (!q.1) [c0, .own (.nd ks vs), .fro (.bl r.1), .fro (intsD r.2.1), .fro (intsD r.2.2), c5, c6, .fro (keyR r), .no] := by
      simp [gIdxN, hk, el, idx_row0]
    cases hs : r.1 with
    | false =>
      refine ⟨ks, vs, .inr ⟨?_, rfl, rfl⟩, ?_⟩
      · rintro (z | ⟨z, _⟩)
        · rw [el] at z; cases z
        · rw [hs] at z; cases z
      · rw [hs] at t2
        show ((tAndS _ _ _).bind _) = _
        rw [ev_and, t2, R.bind_ok]
        rfl
    | true =>
      rw [hs] at t2 t3 put
      cases hq : q.1 with
      | false =>
        refine ⟨_, _, .inl ⟨.inr ⟨hs, q, el, hq⟩, rfl, rfl⟩, ?_⟩
        show ((tAndS _ _ _).bind _) = _
        rw [ev_and, t2, R.bind_ok]
        show (tNotS _ _).bind _ = _
        rw [t3, hq]
        exact put
      | true =>
        refine ⟨ks, vs, .inr ⟨?_, rfl, rfl⟩, ?_⟩
        · rintro (z | ⟨_, q', z, z2⟩)
          · rw [el] at z; cases z
          · rw [el] at z
            have := rowD_inj (Option.some.inj z)
            rw [← this, hq] at z2; cases z2
        · show ((tAndS _ _ _).bind _) = _
          rw [ev_and, t2, R.bind_ok]
          show (tNotS _ _).bind _ = _
          rw [t3, hq]
          rfl
/-- the body of the loop -/
theorem lean_t0 {c0 c5 c6 c7 : Cell} {r : Rw} {ks vs : List D} {b : Nat} (hb : b ≤ 5000) (hB : RowB b r) (hf : r.2.1.length + r.2.2.length ≤ 1000) (h5 : ∀ d, c5 ≠ .io d) (h6 : ∀ d, c6 ≠ .io d) (h7 : ∀ d, c7 ≠ .io d)
    (hl : ks.length ≤ sizeLine) (hv : ∀ v, ndLook ks vs (kapN (normR r)) = some v → ∃ q : Rw, v = rowD q) :
    ∃ ks' vs' d1 d2 d3 d4 d5, ((goes ks vs (normR r) ∧ ks' = (ndPut ks vs (keyR (normR r)) (kapN (normR r)) (rowD (normR r))).1 ∧ vs' = (ndPut ks vs (keyR (normR r)) (kapN (normR r)) (rowD (normR r))).2) ∨ (¬ goes ks vs (normR r) ∧ ks' = ks ∧ vs' = vs)) ∧
    t0_lean [c0, .own (.nd ks vs), .fro (.bl r.1), .fro (intsD r.2.1), .fro (intsD r.2.2), c5, c6, c7, .no] = .ok .nx [c0, .own (.nd ks' vs'), .fro (.bl r.1), .fro d1, .fro d2, .fro d3, .fro d4, .fro d5, .no] := by
  obtain ⟨ks', vs', h, e6⟩ := lean_s6 (c0 := c0) (c5 := .fro (.int (big1 (r.2.1 ++ r.2.2)))) (c6 := .fro (.int (gcdL (normR r).2.1 : Nat))) (r := normR r) hl hv
  have hd := big_small hb hB
  have nb := norm_b hB
  have nl : (normR r).2.1.length = r.2.1.length := by simp [normR]
  have hg : ((gcdL (normR r).2.1 : Nat) : Int) > 0 → Small (gcdL (normR r).2.1 : Nat) := fun z => ⟨z, by
    have := log_le (gcd_le (b := 2 ^ b) nb.1)
    have e : (((gcdL (normR r).2.1 : Nat) : Int)).natAbs = gcdL (normR r).2.1 := rfl
    rw [e]
    omega⟩
  refine ⟨ks', vs', intsD (normR r).2.1, intsD (normR r).2.2, .int (big1 (r.2.1 ++ r.2.2)), .int (gcdL (normR r).2.1 : Nat), keyR (normR r), h, ?_⟩
  unfold t0_lean
  rw [ev_seq, lean_s1 hf h5, R.bind_ok, ev_seq, lean_s2 (by omega) hd, R.bind_ok, ev_seq, lean_s3 (by omega) hd, R.bind_ok, ev_seq, lean_s4 h6, R.bind_ok, ev_seq]
  have e5 := lean_s5 (c0 := c0) (c1 := .own (.nd ks vs)) (c4 := .fro (intsD (normR r).2.2)) (c5 := .fro (.int (big1 (r.2.1 ++ r.2.2)))) (c7 := c7) (s := r.1) (f := (normR r).2.1) (w := (normR r).2.2) (by omega) hg h7
  have e5 : _ = R.ok Fl.nx [c0, .own (.nd ks vs), .fro (.bl r.1), .fro (intsD (normR r).2.1), .fro (intsD (normR r).2.2), .fro (.int (big1 (r.2.1 ++ r.2.2))), .fro (.int (gcdL (normR r).2.1 : Nat)), .fro (keyR (normR r)), .no] := e5
  show ((sAsg (gSet 7) _ [c0, .own (.nd ks vs), .fro (.bl r.1), .fro (intsD (normR r).2.1), .fro (intsD (normR r).2.2), .fro (.int (big1 (r.2.1 ++ r.2.2))), .fro (.int (gcdL (normR r).2.1 : Nat)), c7, .no]).bind _) = _
  rw [e5, R.bind_ok]
  exact e6
end Lw

/-! lean as a whole. -/
namespace Lw
open Dt PySem
theorem look_same_zip {k : NestedKey} {z : D} : ∀ {ks vs : List D}, (ndLook ks vs k).isSome = true → ndLook ks (List.zipWith (fun k' d => if nkey k' = some k then z else d) ks vs) k = some z
  | [], _, h => by simp [ndLook] at h
  | _ :: _, [], h => by simp [ndLook] at h
  | a :: ks, v :: vs, h => by
    rw [List.zipWith_cons_cons]
    unfold ndLook at h ⊢
    by_cases e : nkey a = some k
    · rw [if_pos e, if_pos e]
    · rw [if_neg e] at h ⊢
      exact look_same_zip h
theorem look_ne_zip {k k' : NestedKey} {z : D} (hn : k' ≠ k) : ∀ {ks vs : List D}, ndLook ks (List.zipWith (fun k' d => if nkey k' = some k then z else d) ks vs) k' = ndLook ks vs k'
  | [], [] => rfl
  | [], _ :: _ => rfl
  | _ :: _, [] => rfl
  | a :: ks, v :: vs => by
    rw [List.zipWith_cons_cons]
    unfold ndLook
    by_cases e : nkey a = some k'
    · rw [if_pos e, if_pos e, if_neg (fun q => by rw [e] at q; exact hn (Option.some.inj q))]
    · rw [if_neg e, if_neg e]
      exact look_ne_zip hn
theorem look_app {k : NestedKey} {kd z : D} : ∀ {ks vs : List D}, ks.length = vs.length → ndLook (ks ++ [kd]) (vs ++ [z]) k = match ndLook ks vs k with | some v => some v | none => if nkey kd = some k then some z else none
  | [], [], _ => by simp [ndLook]
  | [], _ :: _, h => by simp at h
  | _ :: _, [], h => by simp at h
  | a :: ks, v :: vs, h => by
    rw [List.cons_append, List.cons_append]
    unfold ndLook
    by_cases e : nkey a = some k
    · rw [if_pos e, if_pos e]
    · rw [if_neg e, if_neg e]
      exact look_app (by simpa using h)
theorem put_same {ks vs : List D} {kd z : D} {k : NestedKey} (hl : ks.length = vs.length) (hk : nkey kd = some k) : ndLook (ndPut ks vs kd k z).1 (ndPut ks vs kd k z).2 k = some z := by
  unfold ndPut
  by_cases h : (ndLook ks vs k).isSome = true
  · rw [if_pos h]; exact look_same_zip h
  · rw [if_neg h]
    show ndLook (ks ++ [kd]) (vs ++ [z]) k = _
    rw [look_app hl]
    cases e : ndLook ks vs k with
    | some v => rw [e] at h; exact absurd rfl h
    | none => rw [if_pos hk]
theorem put_ne {ks vs : List D} {kd z : D} {k k' : NestedKey} (hl : ks.length = vs.length) (hk : nkey kd = some k) (hn : k' ≠ k) : ndLook (ndPut ks vs kd k z).1 (ndPut ks vs kd k z).2 k' = ndLook ks vs k' := by
  unfold ndPut
  by_cases h : (ndLook ks vs k).isSome = true
  · rw [if_pos h]; exact look_ne_zip hn
  · rw [if_neg h]
    show ndLook (ks ++ [kd]) (vs ++ [z]) k' = _
    rw [look_app hl]
    cases e : ndLook ks vs k' with
    | some v => rfl
    | none => rw [if_neg (fun q => by rw [hk] at q; exact hn (Option.some.inj q).symm)]
theorem put_len {ks vs : List D} {kd z : D} {k : NestedKey} (hl : ks.length = vs.length) : (ndPut ks vs kd k z).1.length = (ndPut ks vs kd k z).2.length ∧ (ndPut ks vs kd k z).1.length ≤ ks.length + 1 := by
  unfold ndPut
  split
  · simp; omega
  · simp; omega
theorem put_keys {ks vs : List D} {kd z a : D} {k : NestedKey} (h : a ∈ (ndPut ks vs kd k z).1) : a ∈ ks ∨ a = kd := by
  unfold ndPut at h
  split at h
  · exact .inl h
  · rcases List.mem_append.mp h with h | h
    · exact .inl h
    · exact .inr (List.mem_singleton.mp h)
theorem look_key {k : NestedKey} {v : D} : ∀ {ks vs : List D}, ndLook ks vs k = some v → ∃ a ∈ ks, nkey a = some k
  | [], _, h => by simp [ndLook] at h
  | _ :: _, [], h => by simp [ndLook] at h
  | a :: ks, u :: vs, h => by
    unfold ndLook at h
    by_cases e : nkey a = some k
    · exact ⟨a, List.mem_cons_self, e⟩
    · rw [if_neg e] at h
      obtain ⟨b, h1, h2⟩ := look_key h
      exact ⟨b, List.mem_cons_of_mem _ h1, h2⟩
structure LI (rows : List Rw) (ks vs : List D) : Prop where
  len : ks.length = vs.length
  few : ks.length ≤ rows.length
  keys : ∀ a ∈ ks, ∃ k v, nkey a = some k ∧ ndLook ks vs k = some v
  val : ∀ k v, ndLook ks vs k = some v → ∃ q, v = rowD q ∧ kapN q = k ∧ ∃ r0 ∈ rows, q = normR r0
  cov : ∀ r0 ∈ rows, ∃ q, ndLook ks vs (kapN (normR r0)) = some (rowD q) ∧ (r0.1 = true → q.1 = true)
theorem LI.nil : LI [] [] [] := ⟨rfl, Nat.le_refl _, (fun a h => nomatch h), (fun k v h => nomatch h), fun r h => nomatch h⟩
theorem LI.put {rows : List Rw} {ks vs : List D} (h : LI rows ks vs) (r : Rw) (g : goes ks vs (normR r)) : LI (rows ++ [r]) (ndPut ks vs (keyR (normR r)) (kapN (normR r)) (rowD (normR r))).1 (ndPut ks vs (keyR (normR r)) (kapN (normR r)) (rowD (normR r))).2 := by
  have hk := key_kap (normR r)
  obtain ⟨l1, l2⟩ := put_len (kd := keyR (normR r)) (z := rowD (normR r)) (k := kapN (normR r)) h.len
  have mem : ∀ {q}, (∃ r0 ∈ rows, q = normR r0) → ∃ r0 ∈ rows ++ [r], q = normR r0 := fun ⟨r0, h1, h2⟩ => ⟨r0, List.mem_append_left _ h1, h2⟩
  refine ⟨l1, by rw [List.length_append]; have := h.few; simp; omega, fun a ha => ?_, fun k v e => ?_, fun r0 hr => ?_⟩
  · rcases put_keys ha with ha | rfl
    · obtain ⟨k, v, e1, e2⟩ := h.keys a ha
      by_cases z : k = kapN (normR r)
      · exact ⟨k, _, e1, by rw [z]; exact put_same h.len hk⟩
      · exact ⟨k, v, e1, by rw [put_ne h.len hk z]; exact e2⟩
    · exact ⟨_, _, hk, put_same h.len hk⟩
  · by_cases z : k = kapN (normR r)
    · rw [z, put_same h.len hk] at e
      cases e
      exact ⟨_, rfl, z.symm, r, List.mem_append_right _ (List.mem_singleton.mpr rfl), rfl⟩
    · rw [put_ne h.len hk z] at e
      obtain ⟨q, h1, h2, h3⟩ := h.val k v e
      exact ⟨q, h1, h2, mem h3⟩
  · rcases List.mem_append.mp hr with hr | hr
    · obtain ⟨q, h1, h2⟩ := h.cov r0 hr
      by_cases z : kapN (normR r0) = kapN (normR r)
      · refine ⟨_, by rw [z]; exact put_same h.len hk, fun _ => ?_⟩
        rcases g with g | ⟨g, _⟩
        · rw [z, g] at h1; cases h1
        · exact g
      · exact ⟨q, by rw [put_ne h.len hk z]; exact h1, h2⟩
    · rw [List.mem_singleton.mp hr]
      exact ⟨_, put_same h.len hk, fun w => w⟩
theorem LI.keep {rows : List Rw} {ks vs : List D} (h : LI rows ks vs) (r : Rw) (g : ¬ goes ks vs (normR r)) : LI (rows ++ [r]) ks vs := by
  refine ⟨h.len, by rw [List.length_append]; have := h.few; omega, h.keys, fun k v e => ?_, fun r0 hr => ?_⟩
  · obtain ⟨q, h1, h2, r0, h3, h4⟩ := h.val k v e
    exact ⟨q, h1, h2, r0, List.mem_append_left _ h3, h4⟩
  · rcases List.mem_append.mp hr with hr | hr
    · exact h.cov r0 hr
    · rw [List.mem_singleton.mp hr]
      cases e : ndLook ks vs (kapN (normR r)) with
      | none => exact absurd (.inl e) g
      | some v =>
        obtain ⟨q, rfl, _⟩ := h.val _ _ e
        refine ⟨q, rfl, fun hs => ?_⟩
        cases hq : q.1 with
        | true => rfl
        | false => exact absurd (.inr ⟨hs, q, e, hq⟩) g
theorem gSet_ne {i : Nat} {d : D} {ρ : Dt.Env} {c : Cell} (h : ρ[i]? = some c) (hc : ∀ d, c ≠ .io d) : gSet i d ρ = .ok () (ρ.set i (.fro d)) := by
  rw [ev_gSet, h]
  cases c <;> first | exact absurd rfl (hc _) | rfl
theorem lean_loop {c0 : Cell} {b : Nat} (hb : b ≤ 5000) : ∀ {todo rows : List Rw} {ks vs : List D} {c2 c3 c4 c5 c6 c7 : Cell}, LI rows ks vs → (∀ r ∈ todo, RowB b r ∧ r.2.1.length + r.2.2.length ≤ 1000) → rows.length + todo.length ≤ sizeLine →
    (∀ d, c2 ≠ .io d) → (∀ d, c3 ≠ .io d) → (∀ d, c4 ≠ .io d) → (∀ d, c5 ≠ .io d) → (∀ d, c6 ≠ .io d) → (c7 = .no ∨ ∃ d, c7 = .fro d) →
    ∃ ks' vs' d2 d3 d4 d5 d6 d7, LI (rows ++ todo) ks' vs' ∧ (d7 = .no ∨ ∃ d, d7 = .fro d) ∧ forGo (gTup' 3 (gC (gSet 2) (gC (gSet 3) (gC (gSet 4) gN)))) t0_lean (todo.map rowD) [c0, .own (.nd ks vs), c2, c3, c4, c5, c6, c7, .no] = .ok .nx [c0, .own (.nd ks' vs'), d2, d3, d4, d5, d6, d7, .no]
  | [], rows, ks, vs, c2, c3, c4, c5, c6, c7, h, _, _, _, _, _, _, _, h7 => ⟨ks, vs, c2, c3, c4, c5, c6, c7, by rw [List.append_nil]; exact h, h7, rfl⟩
  | r :: todo, rows, ks, vs, c2, c3, c4, c5, c6, c7, h, hr, hz, h2, h3, h4, h5, h6, h7 => by
    have h7' : ∀ d, c7 ≠ .io d := fun d e => by rcases h7 with z | ⟨_, z⟩ <;> rw [z] at e <;> cases e
    have hr0 := hr r List.mem_cons_self
    obtain ⟨ks', vs', d1, d2, d3, d4, d5, g, e⟩ := lean_t0 (c0 := c0) (c5 := c5) (c6 := c6) (c7 := c7) (r := r) (ks := ks) (vs := vs) hb hr0.1 hr0.2 h5 h6 h7' (by have := h.few; omega) fun v hv => let ⟨q, h1, _⟩ := h.val _ v hv; ⟨q, h1⟩
    have h' : LI (rows ++ [r]) ks' vs' := by
      rcases g with ⟨g, rfl, rfl⟩ | ⟨g, rfl, rfl⟩
      · exact h.put r g
      · exact h.keep r g
    obtain ⟨ks2, vs2, e2, e3, e4, e5, e6, e7, i1, i2, i3⟩ := lean_loop (c0 := c0) hb (todo := todo) (c2 := .fro (.bl r.1)) (c3 := .fro d1) (c4 := .fro d2) (c5 := .fro d3) (c6 := .fro d4) (c7 := .fro d5) h' (fun q hq => hr q (List.mem_cons_of_mem _ hq)) (by rw [List.length_append]; simp at hz ⊢; omega) (by simp) (by simp) (by simp) (by simp) (by simp) (.inr ⟨_, rfl⟩)
    refine ⟨ks2, vs2, e2, e3, e4, e5, e6, e7, by rw [List.append_assoc] at i1; exact i1, i2, ?_⟩
    have eg : gTup' 3 (gC (gSet 2) (gC (gSet 3) (gC (gSet 4) gN))) (rowD r) [c0, .own (.nd ks vs), c2, c3, c4, c5, c6, c7, .no] = .ok () [c0, .own (.nd ks vs), .fro (.bl r.1), .fro (intsD r.2.1), .fro (intsD r.2.2), c5, c6, c7, .no] := by
      show (gC (gSet 2) (gC (gSet 3) (gC (gSet 4) gN))) [.bl r.1, intsD r.2.1, intsD r.2.2] _ = _
      rw [ev_gC, gSet_ne rfl h2, R.bind_ok, ev_gC, gSet_ne rfl h3, R.bind_ok, ev_gC, gSet_ne rfl h4, R.bind_ok, ev_gN0]
      rfl
    rw [List.map_cons]
    unfold forGo
    rw [eg, R.bind_ok, e, R.bind_ok]
    exact i3
theorem scomp_ok' {vs : List Nat} {it : SA} {g : SG} {t : ST} {s : SE} {ρ0 ρ ρw : Dt.Env} {ds zs : List D} (hi : it ρ0 = .ok ds ρ) (hp : plainAt ρ vs = true) (hl : ds.length ≤ sizeLine) (hw : wipeE ρ vs = ρw) (e : compGo vs g t s ds ρw = .ok zs ρw) (hb : backE ρ ρw vs = ρ) : sComp vs it g t s ρ0 = .ok (.lst zs) ρ := by
  unfold sComp
  rw [hi, R.bind_ok, if_pos ⟨hp, hl⟩, hw, e, noX_ok, R.bind_ok, hb]
theorem kap_prop {r q : Rw} (h : kapN r = kapN q) : ∃ k k' : Int, 0 < k ∧ 0 < k' ∧ r.2.1.map (k * ·) = q.2.1.map (k' * ·) := by
  have num_inj : ∀ {f g : List Int}, f.map NestedKey.num = g.map NestedKey.num → f = g := by
    intro f
    induction f with
    | nil => intro g h; cases g with
      | nil => rfl
      | cons _ _ => simp at h
    | cons a f ih => intro g h; cases g with
      | nil => simp at h
      | cons b g =>
        simp only [List.map_cons, List.cons.injEq, NestedKey.num.injEq] at h
        rw [h.1, ih h.2]
  unfold kapN at h
  by_cases z1 : (gcdL r.2.1 : Int) > 0
  · by_cases z2 : (gcdL q.2.1 : Int) > 0
    · rw [if_pos z1, if_pos z2] at h
      have h : (r.2.1.map fun x => NestedKey.num (x / (gcdL r.2.1 : Int))) = q.2.1.map fun x => NestedKey.num (x / (gcdL q.2.1 : Int)) := by injection h
      have h : r.2.1.map (fun x => x / (gcdL r.2.1 : Int)) = q.2.1.map fun x => x / (gcdL q.2.1 : Int) := num_inj (by rw [List.map_map, List.map_map]; exact h)
      refine ⟨gcdL q.2.1, gcdL r.2.1, z2, z1, ?_⟩
      have e1 : r.2.1.map ((gcdL q.2.1 : Int) * ·) = (r.2.1.map (fun x => x / (gcdL r.2.1 : Int))).map (((gcdL q.2.1 : Int) * (gcdL r.2.1 : Int)) * ·) := by
        rw [List.map_map]
        refine List.map_congr_left fun x hx => ?_
        show (gcdL q.2.1 : Int) * x = (gcdL q.2.1 : Int) * (gcdL r.2.1 : Int) * (x / (gcdL r.2.1 : Int))
        rw [Int.mul_assoc, Int.mul_ediv_cancel' (gcd_dvd hx)]
      have e2 : q.2.1.map ((gcdL r.2.1 : Int) * ·) = (q.2.1.map (fun x => x / (gcdL q.2.1 : Int))).map (((gcdL q.2.1 : Int) * (gcdL r.2.1 : Int)) * ·) := by
        rw [List.map_map]
        refine List.map_congr_left fun x hx => ?_
        show (gcdL r.2.1 : Int) * x = (gcdL q.2.1 : Int) * (gcdL r.2.1 : Int) * (x / (gcdL q.2.1 : Int))
        rw [Int.mul_comm (gcdL q.2.1 : Int), Int.mul_assoc, Int.mul_ediv_cancel' (gcd_dvd hx)]
      rw [e1, e2, h]
    · rw [if_pos z1, if_neg z2] at h
      have h : (r.2.1.map fun x => NestedKey.num (x / (gcdL r.2.1 : Int))) = [.tup (q.2.1.map .num), .num (if q.1 = true then 1 else 0)] := by injection h
      cases hf : r.2.1 with
      | nil => rw [hf] at h; simp at h
      | cons a f => rw [hf] at h; simp at h
  · by_cases z2 : (gcdL q.2.1 : Int) > 0
    · rw [if_neg z1, if_pos z2] at h
      have h : [NestedKey.tup (r.2.1.map .num), .num (if r.1 = true then 1 else 0)] = (q.2.1.map fun x => NestedKey.num (x / (gcdL q.2.1 : Int))) := by injection h
      cases hf : q.2.1 with
      | nil => rw [hf] at h; simp at h
      | cons a f => rw [hf] at h; simp at h
    · rw [if_neg z1, if_neg z2] at h
      have h : [NestedKey.tup (r.2.1.map .num), .num (if r.1 = true then 1 else 0)] = [.tup (q.2.1.map .num), .num (if q.1 = true then 1 else 0)] := by injection h
      simp only [List.cons.injEq, NestedKey.tup.injEq] at h
      exact ⟨1, 1, by decide, by decide, by rw [num_inj h.1]⟩
theorem lean_ok {rows : List Rw} {b : Nat} (hb : b ≤ 5000) (hrows : ∀ r ∈ rows, RowB b r ∧ r.2.1.length + r.2.2.length ≤ 1000) (hz : rows.length ≤ sizeLine) : ∃ out : List Rw, m_lean [.lst (rows.map rowD)] = .ok (.lst (out.map rowD)) [] ∧ LeanOk rows out ∧ ∀ r ∈ out, RowB b r := by
  obtain ⟨ks, vs, d2, d3, d4, d5, d6, d7, h, h7, e⟩ := lean_loop (c0 := .fro (.lst (rows.map rowD))) hb (todo := rows) (c2 := .no) (c3 := .no) (c4 := .no) (c5 := .no) (c6 := .no) (c7 := .no) LI.nil hrows (by simpa using hz) (by simp) (by simp) (by simp) (by simp) (by simp) (.inl rfl)
  rw [List.nil_append] at h
  obtain ⟨out, e2, o1, o2, o3⟩ := comp_ex (enc := rowD) (P := fun a r => ∃ k, nkey a = some k ∧ ndLook ks vs k = some (rowD r)) (vs := [7]) (g := gSet 7) (s := sOps gIdxN (b2 (sLoc 1) (sLoc 7))) (ρ := [.fro (.lst (rows.map rowD)), .fro (.nd ks vs), d2, d3, d4, d5, d6, .no, .no]) (ds := ks) (fun a ha => by
    obtain ⟨k, v, k1, k2⟩ := h.keys a ha
    obtain ⟨q, rfl, _⟩ := h.val k v k2
    exact ⟨[.fro (.lst (rows.map rowD)), .fro (.nd ks vs), d2, d3, d4, d5, d6, .fro a, .no], [.fro (.lst (rows.map rowD)), .fro (.nd ks vs), d2, d3, d4, d5, d6, .fro a, .no], q, by simp, by simp [gIdxN, k1, k2], by simp [plainAt], by simp [wipeE], k, k1, k2⟩)
  have e3 : c3_lean [.fro (.lst (rows.map rowD)), .own (.nd ks vs), d2, d3, d4, d5, d6, d7, .no] = .ok (.lst (out.map rowD)) [.fro (.lst (rows.map rowD)), .fro (.nd ks vs), d2, d3, d4, d5, d6, d7, .no] := by
    refine scomp_ok' (ds := ks) (by simp [keysN]) ?_ (by have := h.few; omega) (by simp [wipeE]) e2 (by simp [backE])
    rcases h7 with rfl | ⟨_, rfl⟩ <;> simp [plainAt]
  refine ⟨out, ?_, ⟨by rw [o1]; exact h.few, fun r hr => ?_, fun r0 h0 => ?_⟩, fun r hr => ?_⟩
  · have el : l0_lean [.fro (.lst (rows.map rowD)), .own (.nd [] []), .no, .no, .no, .no, .no, .no, .no] = .ok .nx [.fro (.lst (rows.map rowD)), .own (.nd ks vs), d2, d3, d4, d5, d6, d7, .no] := by
      unfold l0_lean sFor
      rw [show iAny (sVar 0) [.fro (.lst (rows.map rowD)), .own (.nd [] []), .no, .no, .no, .no, .no, .no, .no] = .ok (rows.map rowD) [.fro (.lst (rows.map rowD)), .own (.nd [] []), .no, .no, .no, .no, .no, .no, .no] from rfl, R.bind_ok]
      exact e
    show runP 9 1 b_lean _ = _
    unfold runP b_lean
    simp [el, e3]
  · obtain ⟨a, _, k, _, k2⟩ := o2 r hr
    obtain ⟨q, q1, _, r0, h1, h2⟩ := h.val k _ k2
    rw [rowD_inj q1, h2]
    exact ⟨r0, h1, _, big1_pos _, norm_eq r0⟩
  · obtain ⟨q, c1, c2⟩ := h.cov r0 h0
    obtain ⟨a, ha, ka⟩ := look_key c1
    obtain ⟨r, hr, k, k1, k2⟩ := o3 a ha
    rw [ka] at k1
    cases k1
    rw [c1] at k2
    obtain rfl := rowD_inj (Option.some.inj k2)
    refine ⟨q, hr, c2, ?_⟩
    obtain ⟨q', q1, q2, _⟩ := h.val _ _ c1
    obtain rfl := rowD_inj q1
    obtain ⟨k, k', p1, p2, p3⟩ := kap_prop q2
    refine ⟨big1 (r0.2.1 ++ r0.2.2) * k, k', Int.mul_pos (big1_pos _) p1, p2, ?_⟩
    have e1 := norm_eq r0
    have e2 : r0.2.1 = (normR r0).2.1.map (big1 (r0.2.1 ++ r0.2.2) * ·) := congrArg (fun z : Rw => z.2.1) e1
    have e3 : q.2.1.map (big1 (r0.2.1 ++ r0.2.2) * k * ·) = (q.2.1.map (k * ·)).map (big1 (r0.2.1 ++ r0.2.2) * ·) := by
      rw [List.map_map]
      exact List.map_congr_left fun x _ => Int.mul_assoc ..
    rw [e3, p3]
    have e4 : r0.2.1.map (k' * ·) = ((normR r0).2.1.map (k' * ·)).map (big1 (r0.2.1 ++ r0.2.2) * ·) := by
      conv => lhs; rw [e2]
      rw [List.map_map, List.map_map]
      exact List.map_congr_left fun x _ => Int.mul_left_comm ..
    rw [e4]
  · obtain ⟨a, _, k, _, k2⟩ := o2 r hr
    obtain ⟨q, q1, _, r0, h1, h2⟩ := h.val k _ k2
    rw [rowD_inj q1, h2]
    exact norm_b (hrows r0 h1).1
end Lw

/-! summed, without. -/
namespace Lw
open Dt PySem
theorem comp_gen {α : Type} {enc F : α → D} {vs : List Nat} {g : SG} {s : SE} {ρ : Dt.Env} : ∀ {xs : List α}, (∀ x ∈ xs, ∃ ρ2 ρ3, g (enc x) ρ = .ok () ρ2 ∧ s ρ2 = .ok (F x) ρ3 ∧ plainAt ρ3 vs = true ∧ wipeE ρ3 vs = ρ) → compGo vs g tT1 s (xs.map enc) ρ = .ok (xs.map F) ρ
  | [], _ => rfl
  | x :: xs, h => by
    obtain ⟨ρ2, ρ3, e1, e2, e3, e4⟩ := h x List.mem_cons_self
    rw [List.map_cons]
    unfold compGo
    rw [e1, R.bind_ok, ev_tT1, R.bind_ok]
    show (s ρ2).bind _ = _
    rw [e2, R.bind_ok, if_pos e3, e4, comp_gen (fun y hy => h y (List.mem_cons_of_mem _ hy)), R.bind_ok, List.map_cons]
theorem comp_filt {α : Type} {enc F : α → D} {P : α → Bool} {vs : List Nat} {g : SG} {t : ST} {s : SE} {ρ : Dt.Env} : ∀ {xs : List α}, (∀ x ∈ xs, ∃ ρ1 ρ2, g (enc x) ρ = .ok () ρ1 ∧ t ρ1 = .ok (P x) ρ2 ∧ plainAt ρ2 vs = true ∧ wipeE ρ2 vs = ρ ∧ ∃ ρ3, s ρ2 = .ok (F x) ρ3 ∧ plainAt ρ3 vs = true ∧ wipeE ρ3 vs = ρ) → compGo vs g t s (xs.map enc) ρ = .ok ((xs.filter P).map F) ρ
  | [], _ => rfl
  | x :: xs, h => by
    obtain ⟨ρ1, ρ2, e1, e2, e3, e4, ρ3, e5, e6, e7⟩ := h x List.mem_cons_self
    have ih := comp_filt (fun y hy => h y (List.mem_cons_of_mem _ hy))
    rw [List.map_cons]
    unfold compGo
    rw [e1, R.bind_ok, e2, R.bind_ok]
    cases hp : P x with
    | false =>
      show (if plainAt ρ2 vs = true then _ else _) = _
      rw [if_pos e3, e4, ih, List.filter_cons_of_neg (by simp [hp])]
    | true =>
      show (s ρ2).bind _ = _
      rw [e5, R.bind_ok, if_pos e6, e7, ih, R.bind_ok, List.filter_cons_of_pos (by simp [hp]), List.map_cons]
theorem atI_k {α : Type} {xs : List α} {k : Nat} (h : k < xs.length) : L2.atI xs (k : Int) = some xs[k] := L2.atI_nat (by simp [h])
theorem idx_ints {f : List Int} {p : Nat} (h : p < f.length) : gIdx [intsD f, .int (p : Nat)] = some (.int (f.getD p 0)) := by
  show L2.atI (f.map D.int) (p : Int) = _
  rw [atI_k (by simpa using h)]
  simp [List.getD_eq_getElem?_getD, h]
theorem idx_row1 (r : Rw) : gIdx [rowD r, .int 1] = some (intsD r.2.1) := rfl
theorem idx_row2 (r : Rw) : gIdx [rowD r, .int 2] = some (intsD r.2.2) := rfl
theorem mul_ok {i j : Int} {a b : Nat} (hi : i.natAbs ≤ 2 ^ a) (hj : j.natAbs ≤ 2 ^ b) (h : a + b ≤ 900000) : CMulA i j := .inr (by
  have := log_le hi
  have := log_le hj
  show i.natAbs.log2 + j.natAbs.log2 < 1000000
  omega)
/-- sums of products, item by item -/
theorem pair_zip (f g : List Int) : pairUp (f.map D.int) (g.map D.int) = (f.zip g).map fun p => .arg [.int p.1, .int p.2] := by
  unfold pairUp
  induction f generalizing g with
  | nil => rfl
  | cons a f ih => cases g with
    | nil => rfl
    | cons b g => simp only [List.map_cons, List.zipWith_cons_cons, List.zip_cons_cons, ih]
theorem comb_zip (k l : Int) (f g : List Int) : (comb k l f g).map D.int = (f.zip g).map fun p => .int (k * p.1 + l * p.2) := by
  unfold comb
  induction f generalizing g with
  | nil => rfl
  | cons a f ih => cases g with
    | nil => rfl
    | cons b g => simp only [List.zipWith_cons_cons, List.map_cons, List.zip_cons_cons, ih]
theorem summed_go {c0 c1 c4 c5 : Cell} {k l : Int} {f g : List Int} {b : Nat} (hb : b ≤ 5000) (hk : k.natAbs ≤ 2 ^ b) (hl : l.natAbs ≤ 2 ^ b) (hf : ∀ x ∈ f, x.natAbs ≤ 2 ^ b) (hg : ∀ x ∈ g, x.natAbs ≤ 2 ^ b) :
    compGo [6, 7] (gTup' 2 (gC (gSet 6) (gC (gSet 7) gN))) tT1 (sOps gAdd (b2 (sVal (sOps gMul (b2 (sLoc 2) (sLoc 6)))) (sVal (sOps gMul (b2 (sLoc 3) (sLoc 7)))))) (pairUp (f.map D.int) (g.map D.int)) [c0, c1, .fro (.int k), .fro (.int l), c4, c5, .no, .no] =
      .ok ((comb k l f g).map D.int) [c0, c1, .fro (.int k), .fro (.int l), c4, c5, .no, .no] := by
  rw [pair_zip, comb_zip]
  refine comp_gen fun p hp => ?_
  have m1 := mul_ok hk (hf _ (List.of_mem_zip hp).1) (by omega)
  have m2 := mul_ok hl (hg _ (List.of_mem_zip hp).2) (by omega)
  exact ⟨[c0, c1, .fro (.int k), .fro (.int l), c4, c5, .fro (.int p.1), .fro (.int p.2)], [c0, c1, .fro (.int k), .fro (.int l), c4, c5, .fro (.int p.1), .fro (.int p.2)], by simp, by simp [gMul, m1, m2, gAdd], by simp [plainAt], by simp [wipeE]⟩
theorem zip_len {f g : List Int} (h : f.length ≤ 1000) : (pairUp (f.map D.int) (g.map D.int)).length ≤ sizeLine := by
  unfold pairUp
  rw [List.length_zipWith]
  exact line_pos (by simp; omega)
theorem summed_ok {lo hi : Rw} {k l : Int} {b : Nat} (hb : b ≤ 5000) (h1 : RowB b lo) (h2 : RowB b hi) (hk : k.natAbs ≤ 2 ^ b) (hl : l.natAbs ≤ 2 ^ b) (n1 : lo.2.1.length ≤ 1000) (n2 : lo.2.2.length ≤ 1000) : m_summed [rowD lo, rowD hi, .int k, .int l] = .ok (rowD (summedR lo hi k l)) [] := by
  have e0 : c0_summed [.fro (rowD lo), .fro (rowD hi), .fro (.int k), .fro (.int l), .no, .no, .no, .no] = .ok (.lst ((comb k l lo.2.1 hi.2.1).map D.int)) [.fro (rowD lo), .fro (rowD hi), .fro (.int k), .fro (.int l), .no, .no, .no, .no] :=
    scomp_ok (ds := pairUp (lo.2.1.map D.int) (hi.2.1.map D.int)) (by simp [idx_row1, zipG, seqD, intsD]) (by simp [plainAt]) (zip_len n1) (by simp [wipeE]) (summed_go hb hk hl h1.1 h2.1) (by simp [backE])
  have e1 : c1_summed [.fro (rowD lo), .fro (rowD hi), .fro (.int k), .fro (.int l), .fro (intsD (comb k l lo.2.1 hi.2.1)), .no, .no, .no] = .ok (.lst ((comb k l lo.2.2 hi.2.2).map D.int)) [.fro (rowD lo), .fro (rowD hi), .fro (.int k), .fro (.int l), .fro (intsD (comb k l lo.2.1 hi.2.1)), .no, .no, .no] :=
    scomp_ok (ds := pairUp (lo.2.2.map D.int) (hi.2.2.map D.int)) (by simp [idx_row2, zipG, seqD, intsD]) (by simp [plainAt]) (zip_len n2) (by simp [wipeE]) (summed_go hb hk hl h1.2 h2.2) (by simp [backE])
  show runP 8 4 b_summed _ = _
  unfold runP b_summed
  have t : (D.tup ((comb k l lo.2.1 hi.2.1).map D.int)) = intsD (comb k l lo.2.1 hi.2.1) := rfl
  have t2 : (D.tup ((comb k l lo.2.2 hi.2.2).map D.int)) = intsD (comb k l lo.2.2 hi.2.2) := rfl
  cases hs : lo.1 <;> simp [e0, gTuple, t, e1, t2, idx_row0, hs, line3] <;> simp [rowD, summedR, hs]
/-! ### without -/
theorem pow_two (b : Nat) : 2 ^ (2 * b + 1) = 2 ^ b * 2 ^ b + 2 ^ b * 2 ^ b := by
  rw [Nat.pow_succ, Nat.two_mul, Nat.pow_add]; omega
theorem pow_mono {a b : Nat} (h : a ≤ b) : 2 ^ a ≤ 2 ^ b := Nat.pow_le_pow_right (by decide) h
theorem comb_b {k l : Int} {b : Nat} (hk : k.natAbs ≤ 2 ^ b) (hl : l.natAbs ≤ 2 ^ b) : ∀ {f g : List Int}, (∀ x ∈ f, x.natAbs ≤ 2 ^ b) → (∀ x ∈ g, x.natAbs ≤ 2 ^ b) → ∀ x ∈ comb k l f g, x.natAbs ≤ 2 ^ (2 * b + 1)
  | [], _, _, _, x, h => by simp [comb] at h
  | _ :: _, [], _, _, x, h => by simp [comb] at h
  | a :: f, c :: g, hf, hg, x, h => by
    unfold comb at h
    rw [List.zipWith_cons_cons] at h
    rcases List.mem_cons.mp h with rfl | h
    · have h1 := hf a List.mem_cons_self
      have h2 := hg c List.mem_cons_self
      have m1 : (k * a).natAbs ≤ 2 ^ b * 2 ^ b := by rw [Int.natAbs_mul]; exact Nat.mul_le_mul hk h1
      have m2 : (l * c).natAbs ≤ 2 ^ b * 2 ^ b := by rw [Int.natAbs_mul]; exact Nat.mul_le_mul hl h2
      have := Int.natAbs_add_le (k * a) (l * c)
      rw [pow_two]
      omega
    · exact comb_b hk hl (fun y hy => hf y (List.mem_cons_of_mem _ hy)) (fun y hy => hg y (List.mem_cons_of_mem _ hy)) x h
structure RowOk (b m n : Nat) (r : Rw) : Prop where
  b : RowB b r
  f : r.2.1.length = m
  w : r.2.2.length = n
theorem at0_b {b m n : Nat} {r : Rw} (h : RowOk b m n r) (p : Nat) : (at0 r p).natAbs ≤ 2 ^ b := by
  unfold at0
  rw [List.getD_eq_getElem?_getD]
  cases e : r.2.1[p]? with
  | none => exact Nat.zero_le _
  | some x => exact h.b.1 x (List.mem_of_getElem? e)
theorem without_row {b m n p : Nat} {rows : List Rw} (h : ∀ r ∈ rows, RowOk b m n r) : ∀ r ∈ withoutR rows p, RowOk (2 * b + 1) m n r := fun r hr => by
  rcases without_mem.mp hr with ⟨h1, _⟩ | ⟨lo, h1, hi, h2, h3, h4, rfl⟩
  · have q := h r h1
    have := pow_mono (show b ≤ 2 * b + 1 by omega)
    exact ⟨⟨fun x hx => Nat.le_trans (q.b.1 x hx) this, fun x hx => Nat.le_trans (q.b.2 x hx) this⟩, q.f, q.w⟩
  · have q1 := h lo h1
    have q2 := h hi h2
    have k1 : (-(at0 hi p)).natAbs ≤ 2 ^ b := by rw [Int.natAbs_neg]; exact at0_b q2 p
    have k2 := at0_b q1 p
    exact ⟨⟨comb_b k1 k2 q1.b.1 q2.b.1, comb_b k1 k2 q1.b.2 q2.b.2⟩, (comb_len (q1.f.trans q2.f.symm)).trans q1.f, (comb_len (q1.w.trans q2.w.symm)).trans q1.w⟩
theorem wo_turn {c0 c3 c4 : Cell} {lo hi : Rw} {L : List D} {b m n p : Nat} (hb : b ≤ 5000) (h1 : RowOk b m n lo) (h2 : RowOk b m n hi) (hm : m ≤ 1000) (hn : n ≤ 1000) (hp : p < m) (hL : L.length < sizeLine) :
    t0_without [c0, .fro (.int (p : Nat)), .own (.lst L), c3, c4, .fro (rowD lo), .fro (rowD hi), .no] = .ok .nx [c0, .fro (.int (p : Nat)), .own (.lst (L ++ [rowD (summedR lo hi (-(at0 hi p)) (at0 lo p))])), c3, c4, .fro (rowD lo), .fro (rowD hi), .no] := by
  have k1 : (-(at0 hi p)).natAbs ≤ 2 ^ b := by rw [Int.natAbs_neg]; exact at0_b h2 p
  have e := summed_ok (k := -(at0 hi p)) (l := at0 lo p) hb h1.b h2.b k1 (at0_b h1 p) (by rw [h1.f]; exact hm) (by rw [h1.w]; exact hn)
  have i1 : gIdx [intsD hi.2.1, .int (p : Nat)] = some (.int (at0 hi p)) := idx_ints (by rw [h2.f]; exact hp)
  have i2 : gIdx [intsD lo.2.1, .int (p : Nat)] = some (.int (at0 lo p)) := idx_ints (by rw [h1.f]; exact hp)
  have c : sCallP 4 (m_summed) (sCons (sVar 5) (sCons (sVar 6) (sCons (sOps gNeg (b1 (sVal (sOps gIdx (b2 (sVal (sOps gIdx (b2 (sLoc 6) (sVal (sCst (.int 1)))))) (sLoc 1)))))) (sCons (sOps gIdx (b2 (sVal (sOps gIdx (b2 (sLoc 5) (sVal (sCst (.int 1)))))) (sLoc 1))) sNil)))) [c0, .fro (.int (p : Nat)), .own (.lst L), c3, c4, .fro (rowD lo), .fro (rowD hi), .no] = .ok (rowD (summedR lo hi (-(at0 hi p)) (at0 lo p))) [c0, .fro (.int (p : Nat)), .own (.lst L), c3, c4, .fro (rowD lo), .fro (rowD hi), .no] :=
    call4 (d := rowD lo) (d2 := rowD hi) (d3 := .int (-(at0 hi p))) (d4 := .int (at0 lo p)) (ρ1 := [c0, .fro (.int (p : Nat)), .own (.lst L), c3, c4, .fro (rowD lo), .fro (rowD hi), .no]) (ρ2 := [c0, .fro (.int (p : Nat)), .own (.lst L), c3, c4, .fro (rowD lo), .fro (rowD hi), .no]) (ρ3 := [c0, .fro (.int (p : Nat)), .own (.lst L), c3, c4, .fro (rowD lo), .fro (rowD hi), .no]) (by simp) (by simp) (by simp [idx_row1, i1, gNeg]) (by simp [idx_row1, i2]) e
  unfold t0_without
  simp [-ev_callP, c, mAppend, hL]
theorem wo_inner {c0 c3 c4 : Cell} {lo : Rw} {b m n p : Nat} (hb : b ≤ 5000) (h1 : RowOk b m n lo) (hm : m ≤ 1000) (hn : n ≤ 1000) (hp : p < m) : ∀ {his : List Rw} {L : List D} {c6 : Cell}, (∀ r ∈ his, RowOk b m n r) → L.length + his.length ≤ sizeLine → (∀ d, c6 ≠ .io d) →
    ∃ d6, (∀ d, d6 ≠ .io d) ∧ forGo (gSet 6) t0_without (his.map rowD) [c0, .fro (.int (p : Nat)), .own (.lst L), c3, c4, .fro (rowD lo), c6, .no] = .ok .nx [c0, .fro (.int (p : Nat)), .own (.lst (L ++ (his.map fun hi => summedR lo hi (-(at0 hi p)) (at0 lo p)).map rowD)), c3, c4, .fro (rowD lo), d6, .no]
  | [], L, c6, _, _, h6 => ⟨c6, h6, by simp [forGo]⟩
  | hi :: his, L, c6, hh, hz, h6 => by
    have e := wo_turn (c0 := c0) (c3 := c3) (c4 := c4) (L := L) hb h1 (hh hi List.mem_cons_self) hm hn hp (by simp at hz; omega)
    obtain ⟨d6, i1, i2⟩ := wo_inner (c0 := c0) (c3 := c3) (c4 := c4) hb h1 hm hn hp (his := his) (L := L ++ [rowD (summedR lo hi (-(at0 hi p)) (at0 lo p))]) (c6 := .fro (rowD hi)) (fun r hr => hh r (List.mem_cons_of_mem _ hr)) (by simp at hz ⊢; omega) (by simp)
    refine ⟨d6, i1, ?_⟩
    rw [List.map_cons]
    unfold forGo
    rw [gSet_ne rfl h6, R.bind_ok]
    show (t0_without [c0, .fro (.int (p : Nat)), .own (.lst L), c3, c4, .fro (rowD lo), .fro (rowD hi), .no]).bind _ = _
    rw [e, R.bind_ok]
    refine i2.trans ?_
    simp
theorem wo_outer {c0 c3 : Cell} {his : List Rw} {b m n p : Nat} (hb : b ≤ 5000) (hh : ∀ r ∈ his, RowOk b m n r) (hm : m ≤ 1000) (hn : n ≤ 1000) (hp : p < m) : ∀ {los : List Rw} {L : List D} {c4 c5 c6 : Cell}, (∀ r ∈ los, RowOk b m n r) → L.length + los.length * his.length ≤ sizeLine → (c4 = .own (.lst (his.map rowD)) ∨ c4 = .fro (.lst (his.map rowD))) → (∀ d, c5 ≠ .io d) → (∀ d, c6 ≠ .io d) →
    ∃ d4 d5 d6, forGo (gSet 5) t1_without (los.map rowD) [c0, .fro (.int (p : Nat)), .own (.lst L), c3, c4, c5, c6, .no] = .ok .nx [c0, .fro (.int (p : Nat)), .own (.lst (L ++ (los.flatMap fun lo => his.map fun hi => summedR lo hi (-(at0 hi p)) (at0 lo p)).map rowD)), c3, d4, d5, d6, .no]
  | [], L, c4, c5, c6, _, _, _, _, _ => ⟨c4, c5, c6, by simp [forGo]⟩
  | lo :: los, L, c4, c5, c6, hl, hz, h4, h5, h6 => by
    have hz' : L.length + his.length + los.length * his.length ≤ sizeLine := by rw [List.length_cons, Nat.succ_mul] at hz; omega
    obtain ⟨d6, i1, i2⟩ := wo_inner (c0 := c0) (c3 := c3) (c4 := .fro (.lst (his.map rowD))) hb (hl lo List.mem_cons_self) hm hn hp (his := his) (L := L) (c6 := c6) hh (by omega) h6
    obtain ⟨d4, d5, d6', j⟩ := wo_outer (c0 := c0) (c3 := c3) hb hh hm hn hp (los := los) (L := L ++ (his.map fun hi => summedR lo hi (-(at0 hi p)) (at0 lo p)).map rowD) (c4 := .fro (.lst (his.map rowD))) (c5 := .fro (rowD lo)) (c6 := d6) (fun r hr => hl r (List.mem_cons_of_mem _ hr)) (by simp; omega) (.inr rfl) (by simp) i1
    have et : t1_without [c0, .fro (.int (p : Nat)), .own (.lst L), c3, c4, .fro (rowD lo), c6, .no] = .ok .nx [c0, .fro (.int (p : Nat)), .own (.lst (L ++ (his.map fun hi => summedR lo hi (-(at0 hi p)) (at0 lo p)).map rowD)), c3, .fro (.lst (his.map rowD)), .fro (rowD lo), d6, .no] := by
      have ei : iAny (sVar 4) [c0, .fro (.int (p : Nat)), .own (.lst L), c3, c4, .fro (rowD lo), c6, .no] = .ok (his.map rowD) [c0, .fro (.int (p : Nat)), .own (.lst L), c3, .fro (.lst (his.map rowD)), .fro (rowD lo), c6, .no] := by
        rcases h4 with rfl | rfl <;> simp [itemsD]
      show l0_without _ = _
      unfold l0_without sFor
      rw [ei, R.bind_ok]
      exact i2
    refine ⟨d4, d5, d6', ?_⟩
    rw [List.map_cons]
    unfold forGo
    rw [gSet_ne rfl h5, R.bind_ok]
    show (t1_without [c0, .fro (.int (p : Nat)), .own (.lst L), c3, c4, .fro (rowD lo), c6, .no]).bind _ = _
    rw [et, R.bind_ok]
    refine j.trans ?_
    simp
theorem wo_len (rows : List Rw) (p : Nat) : (withoutR rows p).length = (rows.filter fun r => decide (at0 r p = 0)).length + (rows.filter fun r => decide (at0 r p > 0)).length * (rows.filter fun r => decide (at0 r p < 0)).length := by
  unfold withoutR
  rw [List.length_append, List.length_flatMap]
  simp [List.map_const', List.sum_replicate_nat]
theorem without_ok {rows : List Rw} {b m n p : Nat} (hb : b ≤ 2000) (h : ∀ r ∈ rows, RowOk b m n r) (hm : m ≤ 500) (hn : n ≤ 500) (hp : p < m) (hz0 : rows.length ≤ sizeLine) (hz : (withoutR rows p).length ≤ sizeLine) :
    ∃ out : List Rw, m_without [.lst (rows.map rowD), .int (p : Nat)] = .ok (.lst (out.map rowD)) [] ∧ LeanOk (withoutR rows p) out ∧ ∀ r ∈ out, RowOk (2 * b + 1) m n r := by
  have hw := without_row (p := p) h
  obtain ⟨out, e, lo, ho⟩ := lean_ok (rows := withoutR rows p) (b := 2 * b + 1) (by omega) (fun r hr => ⟨(hw r hr).b, by rw [(hw r hr).f, (hw r hr).w]; omega⟩) hz
  refine ⟨out, ?_, lo, fun r hr => ?_⟩
  · have go : ∀ {t : ST} {P : Rw → Bool} {c2 c3 : Cell}, (∀ (r : Rw) (c2 c3 : Cell), r ∈ rows → t [.fro (.lst (rows.map rowD)), .fro (.int (p : Nat)), c2, c3, .no, .no, .no, .fro (rowD r)] = .ok (P r) [.fro (.lst (rows.map rowD)), .fro (.int (p : Nat)), c2, c3, .no, .no, .no, .fro (rowD r)]) →
        sComp [7] (iAny (sVar 0)) (gSet 7) t (sVar 7) [.fro (.lst (rows.map rowD)), .fro (.int (p : Nat)), c2, c3, .no, .no, .no, .no] = .ok (.lst ((rows.filter P).map rowD)) [.fro (.lst (rows.map rowD)), .fro (.int (p : Nat)), c2, c3, .no, .no, .no, .no] := fun {t P c2 c3} ht =>
      scomp_ok (ds := rows.map rowD) (by simp [itemsD]) (by simp [plainAt]) (by simpa using hz0) (by simp [wipeE]) (comp_filt fun r hr => ⟨[.fro (.lst (rows.map rowD)), .fro (.int (p : Nat)), c2, c3, .no, .no, .no, .fro (rowD r)], [.fro (.lst (rows.map rowD)), .fro (.int (p : Nat)), c2, c3, .no, .no, .no, .fro (rowD r)], by simp, ht r c2 c3 hr, by simp [plainAt], by simp [wipeE], [.fro (.lst (rows.map rowD)), .fro (.int (p : Nat)), c2, c3, .no, .no, .no, .fro (rowD r)], by simp, by simp [plainAt], by simp [wipeE]⟩) (by simp [backE])
    have ix : ∀ r ∈ rows, gIdx [intsD r.2.1, .int (p : Nat)] = some (.int (at0 r p)) := fun r hr => idx_ints (by rw [(h r hr).f]; exact hp)
    have e0 : c0_without [.fro (.lst (rows.map rowD)), .fro (.int (p : Nat)), .no, .no, .no, .no, .no, .no] = _ := go (P := fun r => decide (at0 r p = 0)) fun r c2 c3 hr => by
      simp [idx_row1, ix r hr, gEq]
      rfl
    have e1 : ∀ z, c1_without [.fro (.lst (rows.map rowD)), .fro (.int (p : Nat)), z, .no, .no, .no, .no, .no] = _ := fun z => go (P := fun r => decide (at0 r p > 0)) fun r c2 c3 hr => by simp [idx_row1, ix r hr, gGt, lexI]
    have e2 : ∀ z y, c2_without [.fro (.lst (rows.map rowD)), .fro (.int (p : Nat)), z, y, .no, .no, .no, .no] = _ := fun z y => go (P := fun r => decide (at0 r p < 0)) fun r c2 c3 hr => by simp [idx_row1, ix r hr, gLt, lexI]
    have sub : ∀ {P : Rw → Bool}, ∀ r ∈ rows.filter P, RowOk b m n r := fun r hr => h r (List.mem_filter.mp hr).1
    obtain ⟨d4, d5, d6, e3⟩ := wo_outer (c0 := .fro (.lst (rows.map rowD))) (c3 := .fro (.lst ((rows.filter fun r => decide (at0 r p > 0)).map rowD))) (his := rows.filter fun r => decide (at0 r p < 0)) (los := rows.filter fun r => decide (at0 r p > 0)) (L := (rows.filter fun r => decide (at0 r p = 0)).map rowD) (c4 := .own (.lst ((rows.filter fun r => decide (at0 r p < 0)).map rowD))) (c5 := .no) (c6 := .no) (b := b) (m := m) (n := n) (by omega) sub (by omega) (by omega) hp sub (by rw [wo_len] at hz; simpa using hz) (.inl rfl) (by simp) (by simp)
    have ew : ((rows.filter fun r => decide (at0 r p = 0)).map rowD ++ ((rows.filter fun r => decide (at0 r p > 0)).flatMap fun lo => (rows.filter fun r => decide (at0 r p < 0)).map fun hi => summedR lo hi (-(at0 hi p)) (at0 lo p)).map rowD) = (withoutR rows p).map rowD := by
      unfold withoutR
      rw [List.map_append]
    rw [ew] at e3
    have el : l1_without [.fro (.lst (rows.map rowD)), .fro (.int (p : Nat)), .own (.lst ((rows.filter fun r => decide (at0 r p = 0)).map rowD)), .own (.lst ((rows.filter fun r => decide (at0 r p > 0)).map rowD)), .own (.lst ((rows.filter fun r => decide (at0 r p < 0)).map rowD)), .no, .no, .no] = _ := e3
    show runP 8 2 b_without _ = _
    unfold runP b_without
    simp [e0, e1, e2, el, e]
  · obtain ⟨r0, h0, d, _, ed⟩ := lo.of r hr
    have q := hw r0 h0
    refine ⟨ho r hr, ?_, ?_⟩
    · have := q.f
      rw [ed] at this
      simpa using this
    · have := q.w
      rw [ed] at this
      simpa using this
end Lw

/-! stages: the first rows, and one place less at each step. -/
namespace Lw
open Dt PySem
def pairD (q : Bool × List Int) : D := .tup [.bl q.1, intsD q.2]
def sysD (sys : Sy) : D := .tup (sys.map pairD)
def stD (rs : List Rw) : D := .lst (rs.map rowD)
def firstR (n : Nat) (wd : Bool) (i : Nat) (q : Bool × List Int) : Rw := (q.1, q.2, if wd = true then unitV n i else [])
def firsts (n : Nat) (wd : Bool) : Nat → Sy → List Rw
  | _, [] => []
  | i, q :: qs => firstR n wd i q :: firsts n wd (i + 1) qs
theorem firsts_len {n : Nat} {wd : Bool} : ∀ {i : Nat} {qs : Sy}, (firsts n wd i qs).length = qs.length
  | _, [] => rfl
  | i, q :: qs => by simp [firsts, firsts_len]
theorem firsts_mem {n : Nat} {wd : Bool} {r : Rw} : ∀ {i : Nat} {qs : Sy}, r ∈ firsts n wd i qs → ∃ j q, qs[j]? = some q ∧ r = firstR n wd (i + j) q
  | _, [], h => nomatch h
  | i, q :: qs, h => by
    rcases List.mem_cons.mp h with rfl | h
    · exact ⟨0, q, rfl, rfl⟩
    · obtain ⟨j, q', h1, h2⟩ := firsts_mem h
      exact ⟨j + 1, q', by simpa using h1, by rw [h2]; congr 1; omega⟩
theorem firsts_of {n : Nat} {wd : Bool} : ∀ {i j : Nat} {qs : Sy} {q : Bool × List Int}, qs[j]? = some q → firstR n wd (i + j) q ∈ firsts n wd i qs
  | _, _, [], _, h => by simp at h
  | i, 0, q' :: qs, q, h => by
    simp at h
    subst h
    exact List.mem_cons_self
  | i, j + 1, q' :: qs, q, h => by
    have := firsts_of (n := n) (wd := wd) (i := i + 1) (j := j) (qs := qs) (q := q) (by simpa using h)
    rw [show i + 1 + j = i + (j + 1) by omega] at this
    exact List.mem_cons_of_mem _ this
theorem len_sys (sys : Sy) : gLen [sysD sys] = some (.int sys.length) := by simp [gLen, sysD]
theorem eqD_int (a b : Int) : eqD (.int a) (.int b) = some (a == b) := rfl
theorem rng1_nat {n : Nat} (h : n ≤ 1000) : rng1D [.int (n : Nat)] = some (upto 0 n) := by simp [rng1D]; omega
theorem rng3_gen {X Y : Int} {n : Nat} (h : -4611686018427387904 ≤ X) (h2 : X < 4611686018427387904) (hn : (X - -1).toNat = n) : rng3D [.int X, .int (-1), .int (-1)] = some (downto X n) := by
  subst hn
  have h : -(2 ^ 62) ≤ X := h
  have h2 : X < 2 ^ 62 := h2
  simp only [rng3D]
  rw [if_pos ⟨trivial, h, h2, by decide, by decide⟩]
theorem rng3_nat {m : Nat} (h : m ≤ 4) : rng3D [.int ((m : Int) - 1), .int (-1), .int (-1)] = some (downto ((m : Int) - 1) m) := rng3_gen (Y := 0) (by omega) (by omega) (by omega)
theorem rng1_it {s : SA} {ρ ρ' : Dt.Env} {n : Nat} (h : s ρ = .ok [.int (n : Nat)] ρ') (hn : n ≤ 1000) : iRng1' s ρ = .ok (upto 0 n) ρ' := by
  rw [ev_iRng1, h, R.bind_ok, rng1_nat hn, ev_ofS]
theorem rng3_it {s : SA} {ρ ρ' : Dt.Env} {m : Nat} (h : s ρ = .ok [.int ((m : Int) - 1), .int (-1), .int (-1)] ρ') (hm : m ≤ 4) : iRng3' s ρ = .ok (downto ((m : Int) - 1) m) ρ' := by
  rw [ev_iRng3, h, R.bind_ok, rng3_nat hm, ev_ofS]
theorem st_c0 {c1 c2 c3 c4 c7 c8 c9 : Cell} {sys : Sy} {i : Nat} (hs : sys.length ≤ 1000) : c0_stages [.fro (sysD sys), c1, c2, c3, c4, .no, .fro (.int (i : Nat)), c7, c8, c9] = .ok (.lst ((unitV sys.length i).map D.int)) [.fro (sysD sys), c1, c2, c3, c4, .no, .fro (.int (i : Nat)), c7, c8, c9] := by
  have e := comp_gen (enc := fun j : Nat => D.int (0 + (j : Nat))) (F := fun j : Nat => D.int (if j = i then 1 else 0)) (vs := [5]) (g := gSet 5) (s := sIf (sTst (sOps gEq (b2 (sLoc 5) (sLoc 6)))) (sCst (.int 1)) (sCst (.int 0))) (ρ := [.fro (sysD sys), c1, c2, c3, c4, .no, .fro (.int (i : Nat)), c7, c8, c9]) (xs := List.range sys.length)
    (fun j _ => ⟨[.fro (sysD sys), c1, c2, c3, c4, .fro (.int (0 + (j : Nat))), .fro (.int (i : Nat)), c7, c8, c9], [.fro (sysD sys), c1, c2, c3, c4, .fro (.int (0 + (j : Nat))), .fro (.int (i : Nat)), c7, c8, c9], by simp, by
      have z : ((j : Int) == (i : Int)) = decide (j = i) := by
        by_cases q : j = i
        · subst q; simp
        · have : (j : Int) ≠ i := by omega
          simp [q, this]
      by_cases q : j = i <;> simp [gEq, eqD_int, z, q], by simp [plainAt], by simp [wipeE]⟩)
  have e2 : (unitV sys.length i).map D.int = (List.range sys.length).map fun j : Nat => D.int (if j = i then 1 else 0) := by unfold unitV; rw [List.map_map]; rfl
  rw [e2]
  exact scomp_ok (ds := upto 0 sys.length) (rng1_it (by simp [len_sys]) hs) (by simp [plainAt]) (line_pos (by simp [upto]; omega)) (by simp [wipeE]) e (by simp [backE])
theorem st_turn {c2 c5' c7 c8 c9 : Cell} {sys : Sy} {L : List D} {wd : Bool} {i : Nat} {q : Bool × List Int} (hs : sys.length ≤ 1000) (hL : L.length < sizeLine) (h7 : ∀ d, c7 ≠ .io d) :
    ∃ d7, (∀ d, d7 ≠ .io d) ∧ t0_stages [.fro (sysD sys), .fro (.bl wd), c2, .own (.lst L), .no, .no, .fro (.int (i : Nat)), c7, .fro (.bl q.1), .fro (intsD q.2)] = .ok .nx [.fro (sysD sys), .fro (.bl wd), c2, .own (.lst (L ++ [rowD (firstR sys.length wd i q)])), .no, .no, .fro (.int (i : Nat)), d7, .fro (.bl q.1), .fro (intsD q.2)] := by
  refine ⟨.fro (intsD (unitV sys.length i)), by simp, ?_⟩
  have e := st_c0 (c1 := .fro (.bl wd)) (c2 := c2) (c3 := .own (.lst L)) (c4 := .no) (c7 := c7) (c8 := .fro (.bl q.1)) (c9 := .fro (intsD q.2)) (i := i) hs
  have t : D.tup ((unitV sys.length i).map D.int) = intsD (unitV sys.length i) := rfl
  have e1 : sAsg (gSet 7) (sOps gTuple (bCons (sVal c0_stages) bNil)) [.fro (sysD sys), .fro (.bl wd), c2, .own (.lst L), .no, .no, .fro (.int (i : Nat)), c7, .fro (.bl q.1), .fro (intsD q.2)] = .ok .nx [.fro (sysD sys), .fro (.bl wd), c2, .own (.lst L), .no, .no, .fro (.int (i : Nat)), .fro (intsD (unitV sys.length i)), .fro (.bl q.1), .fro (intsD q.2)] := by
    rw [ev_asg, ev_ops, ev_bcons, ev_val, e]
    cases c7 <;> first | exact absurd rfl (h7 _) | simp [gTuple, t]
  have l0 : (0 : Nat) ≤ sizeLine := Nat.zero_le _
  unfold t0_stages
  rw [ev_seq, e1, R.bind_ok]
  cases wd <;> simp [mAppend, hL, line3] <;> rfl
theorem st_loop {c2 : Cell} {sys : Sy} {wd : Bool} (hs : sys.length ≤ 1000) : ∀ {qs : Sy} {i : Nat} {L : List D} {c6 c7 c8 c9 : Cell}, L.length + qs.length ≤ sizeLine → (∀ d, c6 ≠ .io d) → (∀ d, c7 ≠ .io d) → (∀ d, c8 ≠ .io d) → (∀ d, c9 ≠ .io d) →
    ∃ d6 d7 d8 d9, forGo (gTup' 2 (gC (gSet 6) (gC (gTup' 2 (gC (gSet 8) (gC (gSet 9) gN))) gN))) t0_stages (Dt.numbered i (qs.map pairD)) [.fro (sysD sys), .fro (.bl wd), c2, .own (.lst L), .no, .no, c6, c7, c8, c9] = .ok .nx [.fro (sysD sys), .fro (.bl wd), c2, .own (.lst (L ++ (firsts sys.length wd i qs).map rowD)), .no, .no, d6, d7, d8, d9]
  | [], i, L, c6, c7, c8, c9, _, _, _, _, _ => ⟨c6, c7, c8, c9, by simp [Dt.numbered, forGo, firsts]⟩
  | q :: qs, i, L, c6, c7, c8, c9, hz, h6, h7, h8, h9 => by
    obtain ⟨d7, k7, e⟩ := st_turn (c2 := c2) (c5' := .no) (c7 := c7) (c8 := c8) (c9 := c9) (L := L) (wd := wd) (i := i) (q := q) hs (by simp at hz; omega) h7
    obtain ⟨e6, e7, e8, e9, j⟩ := st_loop (c2 := c2) (wd := wd) hs (qs := qs) (i := i + 1) (L := L ++ [rowD (firstR sys.length wd i q)]) (c6 := .fro (.int (i : Nat))) (c7 := d7) (c8 := .fro (.bl q.1)) (c9 := .fro (intsD q.2)) (by simp at hz ⊢; omega) (by simp) k7 (by simp) (by simp)
    have eg : gTup' 2 (gC (gSet 6) (gC (gTup' 2 (gC (gSet 8) (gC (gSet 9) gN))) gN)) (.arg [.int (i : Nat), pairD q]) [.fro (sysD sys), .fro (.bl wd), c2, .own (.lst L), .no, .no, c6, c7, c8, c9] = .ok () [.fro (sysD sys), .fro (.bl wd), c2, .own (.lst L), .no, .no, .fro (.int (i : Nat)), c7, .fro (.bl q.1), .fro (intsD q.2)] := by
      show (gC (gSet 6) (gC (gTup' 2 (gC (gSet 8) (gC (gSet 9) gN))) gN)) [.int (i : Nat), pairD q] _ = _
      rw [ev_gC, gSet_ne rfl h6, R.bind_ok, ev_gC]
      show (gC (gSet 8) (gC (gSet 9) gN) [.bl q.1, intsD q.2] [.fro (sysD sys), .fro (.bl wd), c2, .own (.lst L), .no, .no, .fro (.int (i : Nat)), c7, c8, c9]).bind _ = _
      rw [ev_gC, gSet_ne rfl h8, R.bind_ok, ev_gC, gSet_ne rfl h9, R.bind_ok, ev_gN0, R.bind_ok, ev_gN0]
      rfl
    refine ⟨e6, e7, e8, e9, ?_⟩
    rw [List.map_cons]
    unfold Dt.numbered forGo
    rw [eg, R.bind_ok, e, R.bind_ok]
    refine j.trans ?_
    simp [firsts]
/-! ### the steps -/
def szB : Nat → Nat
  | 0 => 8
  | k + 1 => szB k * szB k / 4 + szB k
def bitB : Nat → Nat
  | 0 => 30
  | k + 1 => 2 * bitB k + 1
theorem four_mul (l h : Nat) : 4 * (l * h) ≤ (l + h) * (l + h) := by
  have key : ∀ l d : Nat, 4 * (l * (l + d)) ≤ (l + (l + d)) * (l + (l + d)) := fun l d => by
    have e1 : (l + (l + d)) * (l + (l + d)) = 4 * (l * l) + 4 * (l * d) + d * d := by
      have : l + (l + d) = 2 * l + d := by omega
      rw [this, Nat.add_mul, Nat.mul_add, Nat.mul_add]
      have a1 : 2 * l * (2 * l) = 4 * (l * l) := by rw [Nat.mul_assoc, Nat.mul_left_comm l 2 l]; omega
      have a2 : 2 * l * d = 2 * (l * d) := Nat.mul_assoc ..
      have a3 : d * (2 * l) = 2 * (l * d) := by rw [Nat.mul_comm d, Nat.mul_assoc]
      omega
    rw [e1, Nat.mul_add]
    omega
  rcases Nat.le_total l h with z | z
  · obtain ⟨d, rfl⟩ := Nat.le.dest z
    exact key l d
  · obtain ⟨d, rfl⟩ := Nat.le.dest z
    have := key h d
    rw [Nat.mul_comm (h + d) h, Nat.add_comm (h + d) h]
    exact this
theorem filt3 (rows : List Rw) (p : Nat) : (rows.filter fun r => decide (at0 r p = 0)).length + (rows.filter fun r => decide (at0 r p > 0)).length + (rows.filter fun r => decide (at0 r p < 0)).length = rows.length := by
  induction rows with
  | nil => rfl
  | cons r rows ih =>
    rcases Int.lt_trichotomy (at0 r p) 0 with z | z | z
    · rw [List.filter_cons_of_neg (by simp; omega), List.filter_cons_of_neg (by simp; omega), List.filter_cons_of_pos (by simpa using z)]
      simp only [List.length_cons]; omega
    · rw [List.filter_cons_of_pos (by simpa using z), List.filter_cons_of_neg (by simp; omega), List.filter_cons_of_neg (by simp; omega)]
      simp only [List.length_cons]; omega
    · rw [List.filter_cons_of_neg (by simp; omega), List.filter_cons_of_pos (by simpa using z), List.filter_cons_of_neg (by simp; omega)]
      simp only [List.length_cons]; omega
theorem wo_size {rows : List Rw} {p N : Nat} (h : rows.length ≤ N) : (withoutR rows p).length ≤ N * N / 4 + N := by
  rw [wo_len]
  have f3 := filt3 rows p
  generalize (rows.filter fun r => decide (at0 r p = 0)).length = a at *
  generalize (rows.filter fun r => decide (at0 r p > 0)).length = l at *
  generalize (rows.filter fun r => decide (at0 r p < 0)).length = u at *
  have := four_mul l u
  have h2 : (l + u) * (l + u) ≤ N * N := Nat.mul_le_mul (by omega) (by omega)
  have h3 : l * u ≤ N * N / 4 := by
    rw [Nat.le_div_iff_mul_le (by decide)]
    omega
  omega
theorem sz_line {k : Nat} (h : k ≤ 4) : szB k ≤ sizeLine := by
  have : szB k ≤ 13053768 := by
    match k, h with
    | 0, _ => decide
    | 1, _ => decide
    | 2, _ => decide
    | 3, _ => decide
    | 4, _ => decide
  exact line_pos (by omega)
theorem bit_le {k : Nat} (h : k ≤ 4) : bitB k ≤ 500 := by
  match k, h with
  | 0, _ => decide
  | 1, _ => decide
  | 2, _ => decide
  | 3, _ => decide
  | 4, _ => decide
structure StOk (o m n : Nat) (rows : List Rw) (L : List (List Rw)) : Prop where
  zero : LeanOk rows (L.getD 0 [])
  step : ∀ k, k + 1 < L.length → LeanOk (withoutR (L.getD k []) (m - 1 - k)) (L.getD (k + 1) [])
  row : ∀ k, k < L.length → (L.getD k []).length ≤ szB (o + k) ∧ ∀ r ∈ L.getD k [], RowOk (bitB k) m n r
def dn : Nat → List D
  | 0 => []
  | r + 1 => .int (r : Nat) :: dn r
theorem down_dn : ∀ r : Nat, downto ((r : Int) - 1) r = dn r
  | 0 => rfl
  | r + 1 => by
    have ih := down_dn r
    unfold downto at ih ⊢
    unfold dn
    rw [List.range_succ_eq_map, List.map_cons, List.map_map, ← ih]
    congr 1
    · congr 1; simp
    · refine List.map_congr_left fun i _ => ?_
      show D.int (((r + 1 : Nat) : Int) - 1 + ((i + 1 : Nat) : Int) * -1) = D.int ((r : Int) - 1 + (i : Nat) * -1)
      congr 1
      omega
theorem atI_last {α : Type} (L : List α) (x : α) : L2.atI (L ++ [x]) (-1) = some x := by
  have h : L2.ixN (L ++ [x]).length (-1) = some L.length := by
    unfold L2.ixN
    rw [List.length_append, List.length_singleton, if_neg (by omega), if_pos (by omega)]
    congr 1
    omega
  unfold L2.atI
  rw [h, Option.bind_some, List.getElem?_append_right (Nat.le_refl _), Nat.sub_self]
  rfl
theorem getD_last {L : List (List Rw)} (h : L ≠ []) : ∃ L', L = L' ++ [L.getD (L.length - 1) []] := by
  refine ⟨L.dropLast, ?_⟩
  have h2 := (List.dropLast_concat_getLast h).symm
  have h3 : L.getLast h = L.getD (L.length - 1) [] := by
    have pos : 0 < L.length := List.length_pos_iff.mpr h
    rw [List.getLast_eq_getElem, List.getD_eq_getElem?_getD, List.getElem?_eq_getElem (by omega)]
    rfl
  rw [h3] at h2
  exact h2
theorem step_turn {c0 c1 c3 c6 c7 c8 c9 : Cell} {rows : List Rw} {L : List (List Rw)} {o m n p : Nat} (hm : o + m ≤ 4) (hn : n ≤ 24) (h : StOk o m n rows L) (hl : L ≠ []) (hL : L.length = m - p) (hp : p < m) :
    ∃ out, StOk o m n rows (L ++ [out]) ∧ t1_stages [c0, c1, .fro (.int (m : Nat)), c3, .own (.lst (L.map stD)), .fro (.int (p : Nat)), c6, c7, c8, c9] = .ok .nx [c0, c1, .fro (.int (m : Nat)), c3, .own (.lst ((L ++ [out]).map stD)), .fro (.int (p : Nat)), c6, c7, c8, c9] := by
  have pos : 0 < L.length := List.length_pos_iff.mpr hl
  obtain ⟨L', eL⟩ := getD_last hl
  have rk := h.row (L.length - 1) (by omega)
  have hk : L.length - 1 ≤ 3 := by omega
  have sz := wo_size (p := p) rk.1
  have szl : (withoutR (L.getD (L.length - 1) []) p).length ≤ szB (o + (L.length - 1 + 1)) := sz
  obtain ⟨out, e, lo, ro⟩ := without_ok (rows := L.getD (L.length - 1) []) (b := bitB (L.length - 1)) (m := m) (n := n) (p := p) (by have := bit_le (k := L.length - 1) (by omega); omega) rk.2 (by omega) (by omega) hp (Nat.le_trans rk.1 (sz_line (by omega))) (Nat.le_trans szl (sz_line (by omega)))
  have g1 : ∀ k, k < L.length → (L ++ [out]).getD k [] = L.getD k [] := fun k hk => by
    rw [List.getD_eq_getElem?_getD, List.getD_eq_getElem?_getD, List.getElem?_append_left hk]
  have g2 : (L ++ [out]).getD L.length [] = out := by rw [List.getD_eq_getElem?_getD, List.getElem?_append_right (Nat.le_refl _)]; simp
  refine ⟨out, ⟨by rw [g1 0 pos]; exact h.zero, fun k hk => ?_, fun k hk => ?_⟩, ?_⟩
  · rw [List.length_append] at hk
    simp at hk
    by_cases z : k + 1 < L.length
    · rw [g1 k (by omega), g1 (k + 1) z]; exact h.step k z
    · have ek : k = L.length - 1 := by omega
      have ek1 : k + 1 = L.length := by omega
      rw [g1 k (by omega), ek1, g2, ek, show m - 1 - (L.length - 1) = p by omega]
      exact lo
  · rw [List.length_append] at hk
    simp at hk
    by_cases z : k < L.length
    · rw [g1 k z]; exact h.row k z
    · have ek : k = L.length - 1 + 1 := by omega
      have ek1 : k = L.length := by omega
      rw [ek1, g2, ← ek1, ek]
      exact ⟨Nat.le_trans lo.len szl, ro⟩
  · have ei : gIdx [.lst (L.map stD), .int (-1)] = some (stD (L.getD (L.length - 1) [])) := by
      show L2.atI (L.map stD) (-1) = _
      rw [eL, List.map_append]
      exact (atI_last _ _).trans (by rw [← eL])
    have c : sCallP 2 (m_without) (sCons (sOps gIdx (b2 (sLoc 4) (sVal (sOps gNeg (b1 (sVal (sCst (.int 1)))))))) (sCons (sVar 5) sNil)) [c0, c1, .fro (.int (m : Nat)), c3, .own (.lst (L.map stD)), .fro (.int (p : Nat)), c6, c7, c8, c9] = .ok (stD out) [c0, c1, .fro (.int (m : Nat)), c3, .own (.lst (L.map stD)), .fro (.int (p : Nat)), c6, c7, c8, c9] :=
      call2 (d := stD (L.getD (L.length - 1) [])) (d2 := .int (p : Nat)) (ρ' := [c0, c1, .fro (.int (m : Nat)), c3, .own (.lst (L.map stD)), .fro (.int (p : Nat)), c6, c7, c8, c9]) (by simp [gNeg, ei]) (by simp) e
    have hs : L.length < sizeLine := Nat.lt_of_lt_of_le (show L.length < 100 by omega) (line_pos (by decide))
    unfold t1_stages
    simp [-ev_callP, c, mAppend, hs]
theorem step_loop {c0 c1 c3 c6 c7 c8 c9 : Cell} {rows : List Rw} {o m n : Nat} (hm : o + m ≤ 4) (hn : n ≤ 24) : ∀ {p : Nat} {L : List (List Rw)} {c5 : Cell}, StOk o m n rows L → L ≠ [] → L.length = m - p + 1 → p ≤ m → (∀ d, c5 ≠ .io d) →
    ∃ L' d5, StOk o m n rows L' ∧ L'.length = m + 1 ∧ forGo (gSet 5) t1_stages (dn p) [c0, c1, .fro (.int (m : Nat)), c3, .own (.lst (L.map stD)), c5, c6, c7, c8, c9] = .ok .nx [c0, c1, .fro (.int (m : Nat)), c3, .own (.lst (L'.map stD)), d5, c6, c7, c8, c9]
  | 0, L, c5, h, _, hL, _, _ => ⟨L, c5, h, by omega, rfl⟩
  | p + 1, L, c5, h, hl, hL, hp, h5 => by
    obtain ⟨out, h', e⟩ := step_turn (c0 := c0) (c1 := c1) (c3 := c3) (c6 := c6) (c7 := c7) (c8 := c8) (c9 := c9) (p := p) hm hn h hl (by omega) (by omega)
    obtain ⟨L', d5, i1, i2, i3⟩ := step_loop (c0 := c0) (c1 := c1) (c3 := c3) (c6 := c6) (c7 := c7) (c8 := c8) (c9 := c9) hm hn (p := p) (L := L ++ [out]) (c5 := .fro (.int (p : Nat))) h' (by simp) (by simp; omega) (by omega) (by simp)
    refine ⟨L', d5, i1, i2, ?_⟩
    unfold dn forGo
    rw [gSet_ne rfl h5, R.bind_ok]
    show (t1_stages [c0, c1, .fro (.int (m : Nat)), c3, .own (.lst (L.map stD)), .fro (.int (p : Nat)), c6, c7, c8, c9]).bind _ = _
    rw [e, R.bind_ok]
    exact i3
theorem l1_args (c0 c1 c3 c4 c6 c7 c8 c9 : Cell) (X : Int) : sCons (sOps gSub (b2 (sLoc 2) (sVal (sCst (.int 1))))) (sCons (sOps gNeg (b1 (sVal (sCst (.int 1))))) (sCons (sOps gNeg (b1 (sVal (sCst (.int 1))))) sNil)) [c0, c1, .fro (.int X), c3, c4, .no, c6, c7, c8, c9] = .ok [.int (X - 1), .int (-1), .int (-1)] [c0, c1, .fro (.int X), c3, c4, .no, c6, c7, c8, c9] := by simp [gSub, gI, gNeg]
theorem l1_go {c0 c1 c3 c4 c6 c7 c8 c9 : Cell} {m : Nat} {ρ' : Dt.Env} (m4 : m ≤ 4) (h : forGo (gSet 5) t1_stages (dn m) [c0, c1, .fro (.int (m : Nat)), c3, c4, .no, c6, c7, c8, c9] = .ok .nx ρ') : l1_stages [c0, c1, .fro (.int (m : Nat)), c3, c4, .no, c6, c7, c8, c9] = .ok .nx ρ' := by
  unfold l1_stages sFor
  rw [rng3_it (l1_args c0 c1 c3 c4 c6 c7 c8 c9 (m : Int)) m4, R.bind_ok, down_dn]
  exact h
structure SysV (o m : Nat) (sys : Sy) : Prop where
  few : 1 ≤ sys.length ∧ sys.length ≤ szB o ∧ sys.length ≤ 24
  len : ∀ q ∈ sys, q.2.length = m
  m1 : 1 ≤ m ∧ o + m ≤ 4
  small : ∀ q ∈ sys, ∀ x ∈ q.2, x.natAbs ≤ 2 ^ 30
theorem l0_go {sys : Sy} {wd : Bool} {c2 c3 : Cell} {ρ' : Dt.Env} (h : forGo (gTup' 2 (gC (gSet 6) (gC (gTup' 2 (gC (gSet 8) (gC (gSet 9) gN))) gN))) t0_stages (Dt.numbered 0 (sys.map pairD)) [.fro (sysD sys), .fro (.bl wd), c2, c3, .no, .no, .no, .no, .no, .no] = .ok .nx ρ') : l0_stages [.fro (sysD sys), .fro (.bl wd), c2, c3, .no, .no, .no, .no, .no, .no] = .ok .nx ρ' := by
  unfold l0_stages sFor
  have : iEnumX (sCons (sVar 0) sNil) [.fro (sysD sys), .fro (.bl wd), c2, c3, .no, .no, .no, .no, .no, .no] = .ok (Dt.numbered 0 (sys.map pairD)) [.fro (sysD sys), .fro (.bl wd), c2, c3, .no, .no, .no, .no, .no, .no] := by simp [enumD, seqD, sysD]
  rw [this, R.bind_ok]
  exact h
theorem st_gen {A0 A1 : SS} {g : List D → FR} {d q f out rs L : D} {wd : Bool} {m : Nat} {d5 d6 d7 d8 d9 : Cell} (i1 : gIdx [d, .int 0] = some q) (i2 : gIdx [q, .int 1] = some f) (i3 : gLen [f] = some (.int (m : Nat)))
    (el0 : A0 [.fro d, .fro (.bl wd), .fro (.int (m : Nat)), .own (.lst []), .no, .no, .no, .no, .no, .no] = .ok .nx [.fro d, .fro (.bl wd), .fro (.int (m : Nat)), .own rs, .no, .no, d6, d7, d8, d9])
    (e' : g [rs] = .ok out [])
    (el1 : A1 [.fro d, .fro (.bl wd), .fro (.int (m : Nat)), .fro rs, .own (.lst [out]), .no, d6, d7, d8, d9] = .ok .nx [.fro d, .fro (.bl wd), .fro (.int (m : Nat)), .fro rs, .own L, d5, d6, d7, d8, d9]) :
    runP 10 2 (sSeq (sAsg (gSet 2) (sOps gLen (bCons (sVal (sOps gIdx (b2 (sVal (sOps gIdx (b2 (sLoc 0) (sVal (sCst (.int 0)))))) (sVal (sCst (.int 1)))))) bNil)))
      (sSeq (sAsg (gOwn 3) (sLst sNil)) (sSeq A0 (sSeq (sAsg (gOwn 4) (sLst (sCons (sCallP 1 g (sCons (sVar 3) sNil)) sNil))) (sSeq A1 (sRet (sVar 4))))))) [d, .bl wd] = .ok L [] := by
  unfold runP
  simp [i1, i2, i3, el0, el1, e', line1']
theorem st_body {q0 : Bool × List Int} {sys' : Sy} {wd : Bool} {m : Nat} {out : List Rw} {L : List (List Rw)} {d5 d6 d7 d8 d9 : Cell} (l0 : q0.2.length = m)
    (el0 : l0_stages [.fro (sysD (q0 :: sys')), .fro (.bl wd), .fro (.int (m : Nat)), .own (.lst []), .no, .no, .no, .no, .no, .no] = .ok .nx [.fro (sysD (q0 :: sys')), .fro (.bl wd), .fro (.int (m : Nat)), .own (.lst ((firsts (q0 :: sys').length wd 0 (q0 :: sys')).map rowD)), .no, .no, d6, d7, d8, d9])
    (e' : m_lean [.lst ((firsts (q0 :: sys').length wd 0 (q0 :: sys')).map rowD)] = .ok (stD out) [])
    (el1 : l1_stages [.fro (sysD (q0 :: sys')), .fro (.bl wd), .fro (.int (m : Nat)), .fro (.lst ((firsts (q0 :: sys').length wd 0 (q0 :: sys')).map rowD)), .own (.lst [stD out]), .no, d6, d7, d8, d9] = .ok .nx [.fro (sysD (q0 :: sys')), .fro (.bl wd), .fro (.int (m : Nat)), .fro (.lst ((firsts (q0 :: sys').length wd 0 (q0 :: sys')).map rowD)), .own (.lst (L.map stD)), d5, d6, d7, d8, d9]) :
    m_stages [sysD (q0 :: sys'), .bl wd] = .ok (.lst (L.map stD)) [] := by
  have elen : gLen [intsD q0.2] = some (.int (m : Nat)) := by simp [gLen, intsD, l0]
  have eidx : gIdx [sysD (q0 :: sys'), .int 0] = some (pairD q0) := by
    show L2.atI ((q0 :: sys').map pairD) 0 = _
    rw [List.map_cons]
    exact (L2.atI_nat (xs := pairD q0 :: sys'.map pairD) (j := 0) rfl : L2.atI (pairD q0 :: sys'.map pairD) ((0 : Nat) : Int) = _)
  have eidx2 : gIdx [pairD q0, .int 1] = some (intsD q0.2) := rfl
  exact st_gen eidx eidx2 elen el0 e' el1
theorem stages_ok {sys : Sy} {o m : Nat} {wd : Bool} (h : SysV o m sys) : ∃ L : List (List Rw), m_stages [sysD sys, .bl wd] = .ok (.lst (L.map stD)) [] ∧ StOk o m (if wd = true then sys.length else 0) (firsts sys.length wd 0 sys) L ∧ L.length = m + 1 := by
  obtain ⟨h1, hz, h8⟩ := h.few
  obtain ⟨m1, m4⟩ := h.m1
  have fr : ∀ r ∈ firsts sys.length wd 0 sys, RowOk 30 m (if wd = true then sys.length else 0) r := fun r hr => by
    obtain ⟨j, q, hq, rfl⟩ := firsts_mem hr
    have mq := List.mem_of_getElem? hq
    refine ⟨⟨h.small q mq, fun x hx => ?_⟩, h.len q mq, ?_⟩
    · cases wd with
      | false => exact nomatch hx
      | true =>
        obtain ⟨i, _, rfl⟩ := List.mem_map.mp (show x ∈ unitV sys.length (0 + j) from hx)
        split <;> decide
    · cases wd with
      | false => rfl
      | true => exact unit_len
  obtain ⟨out, e, lo, ho⟩ := lean_ok (rows := firsts sys.length wd 0 sys) (b := 30) (by omega) (fun r hr => ⟨(fr r hr).b, by rw [(fr r hr).f, (fr r hr).w]; split <;> omega⟩) (by rw [firsts_len]; exact line_pos (by omega))
  have ro : ∀ r ∈ out, RowOk 30 m (if wd = true then sys.length else 0) r := fun r hr => by
    obtain ⟨r0, h0, d, _, ed⟩ := lo.of r hr
    have q := fr r0 h0
    refine ⟨ho r hr, ?_, ?_⟩
    · have := q.f; rw [ed] at this; simpa using this
    · have := q.w; rw [ed] at this; simpa using this
  have st0 : StOk o m (if wd = true then sys.length else 0) (firsts sys.length wd 0 sys) [out] := ⟨lo, fun k hk => by simp at hk, fun k hk => by
    have : k = 0 := by simpa using hk
    subst this
    exact ⟨by show out.length ≤ szB o; have := lo.len; rw [firsts_len] at this; omega, ro⟩⟩
  obtain ⟨q0, sys', rfl⟩ : ∃ q0 sys', sys = q0 :: sys' := by
    cases sys with
    | nil => simp at h1
    | cons a b => exact ⟨a, b, rfl⟩
  have l0 : q0.2.length = m := h.len q0 List.mem_cons_self
  obtain ⟨d6, d7, d8, d9, ea⟩ := st_loop (c2 := .fro (.int (m : Nat))) (sys := q0 :: sys') (wd := wd) (by omega) (qs := q0 :: sys') (i := 0) (L := []) (c6 := .no) (c7 := .no) (c8 := .no) (c9 := .no) (line_pos (by simp at h8 ⊢; omega)) (by simp) (by simp) (by simp) (by simp)
  have m4' : m ≤ 4 := by omega
  obtain ⟨L, d5, s1, s2, s3⟩ := step_loop (c0 := .fro (sysD (q0 :: sys'))) (c1 := .fro (.bl wd)) (c3 := .fro (.lst ((firsts (q0 :: sys').length wd 0 (q0 :: sys')).map rowD))) (c6 := d6) (c7 := d7) (c8 := d8) (c9 := d9) (m := m) m4 (by split <;> omega) (p := m) (L := [out]) (c5 := .no) st0 (by simp) (by simp) (Nat.le_refl m) (by simp)
  refine ⟨L, ?_, s1, s2⟩
  exact st_body l0 (l0_go ea) e (l1_go m4' s3)
end Lw

/-! barred, nearest: what they compute. -/
namespace Lw
open Dt PySem
/-! ### barred -/
def barR : List Rw → D
  | [] => .non
  | r :: rs => if r.1 = true then intsD r.2.2 else barR rs
theorem bar_loop (c0 : Cell) : ∀ {rs : List Rw} {c1 c2 c3 : Cell}, (∀ d, c1 ≠ .io d) → (∀ d, c2 ≠ .io d) → (∀ d, c3 ≠ .io d) →
    (barR rs = .non → ∃ ρ', forGo (gTup' 3 (gC (gSet 1) (gC (gSet 2) (gC (gSet 3) gN)))) t0_barred (rs.map rowD) [c0, c1, c2, c3] = .ok .nx ρ') ∧ (barR rs ≠ .non → ∃ ρ', forGo (gTup' 3 (gC (gSet 1) (gC (gSet 2) (gC (gSet 3) gN)))) t0_barred (rs.map rowD) [c0, c1, c2, c3] = .ok (.rt (barR rs)) ρ')
  | [], c1, c2, c3, _, _, _ => ⟨fun _ => ⟨_, rfl⟩, fun z => absurd rfl z⟩
  | r :: rs, c1, c2, c3, h1, h2, h3 => by
    obtain ⟨a, b⟩ := bar_loop c0 (rs := rs) (c1 := .fro (.bl r.1)) (c2 := .fro (intsD r.2.1)) (c3 := .fro (intsD r.2.2)) (by simp) (by simp) (by simp)
    have eg : gTup' 3 (gC (gSet 1) (gC (gSet 2) (gC (gSet 3) gN))) (rowD r) [c0, c1, c2, c3] = .ok () [c0, .fro (.bl r.1), .fro (intsD r.2.1), .fro (intsD r.2.2)] := by
      show gC (gSet 1) (gC (gSet 2) (gC (gSet 3) gN)) [.bl r.1, intsD r.2.1, intsD r.2.2] _ = _
      rw [ev_gC, gSet_ne rfl h1, R.bind_ok, ev_gC, gSet_ne rfl h2, R.bind_ok, ev_gC, gSet_ne rfl h3, R.bind_ok, ev_gN0]
      rfl
    have et : t0_barred [c0, .fro (.bl r.1), .fro (intsD r.2.1), .fro (intsD r.2.2)] = .ok (if r.1 = true then .rt (intsD r.2.2) else .nx) [c0, .fro (.bl r.1), .fro (intsD r.2.1), .fro (intsD r.2.2)] := by
      unfold t0_barred
      cases r.1 <;> simp
    rw [List.map_cons]
    unfold forGo barR
    rw [eg, R.bind_ok, et, R.bind_ok]
    cases z : r.1 with
    | true => exact ⟨fun w => absurd w (by simp [intsD]), fun _ => ⟨_, rfl⟩⟩
    | false => rw [z] at a b; exact ⟨fun w => a w, fun w => b w⟩
theorem barred_ok (rs : List Rw) : m_barred [stD rs] = .ok (barR rs) [] := by
  obtain ⟨a, b⟩ := bar_loop (.fro (stD rs)) (rs := rs) (c1 := .no) (c2 := .no) (c3 := .no) (by simp) (by simp) (by simp)
  have hi : itemsD (stD rs) = some (rs.map rowD) := rfl
  show runP 4 1 b_barred _ = _
  unfold runP b_barred l0_barred sFor
  by_cases z : barR rs = .non
  · obtain ⟨ρ', e⟩ := a z
    simp [hi, e, z]
  · obtain ⟨ρ', e⟩ := b z
    simp [hi, e]
theorem bar_non {rs : List Rw} : barR rs = .non ↔ ∀ r ∈ rs, r.1 = false := by
  induction rs with
  | nil => simp [barR]
  | cons r rs ih =>
    unfold barR
    cases h : r.1
    · simp [ih, h]
    · simp [h, intsD]
theorem bar_some {rs : List Rw} (h : barR rs ≠ .non) : ∃ r ∈ rs, r.1 = true ∧ barR rs = intsD r.2.2 := by
  induction rs with
  | nil => exact absurd rfl h
  | cons r rs ih =>
    unfold barR at h ⊢
    by_cases z : r.1 = true
    · rw [if_pos z]; exact ⟨r, List.mem_cons_self, z, rfl⟩
    · rw [if_neg z] at h ⊢
      obtain ⟨q, hq, e⟩ := ih h
      exact ⟨q, List.mem_cons_of_mem _ hq, e⟩
/-! ### nearest -/
abbrev Bd := Int × Int × Bool
def tD (c : Bd) : D := .tup [.int c.1, .int c.2.1, .bl c.2.2]
def bD : Option Bd → D
  | none => .non
  | some c => tD c
def BdOk (t u : Nat) (c : Bd) : Prop := c.1.natAbs ≤ 2 ^ t ∧ c.2.1.natAbs ≤ 2 ^ u
theorem lt_ib (a b : Int) (s t : Bool) : PySem.W.dataLt (.tuple [.int a, .bool s]) (.tuple [.int b, .bool t]) = decide (a < b ∨ a = b ∧ s = false ∧ t = true) := by
  rw [PySem.W.dataLt_tuple]
  show PyProof.Rows.lexLt PyProof.Rows.itemOrd [.inl 1, .inl a, .inl 1, .inl (if s = true then 1 else 0), .inl 0] [.inl 1, .inl b, .inl 1, .inl (if t = true then 1 else 0), .inl 0] = _
  rw [PyProof.Rows.lex_self]
  by_cases z : a = b
  · subst z
    rw [PyProof.Rows.lex_self, PyProof.Rows.lex_self]
    have h0 : ¬ a < a := by omega
    cases s <;> cases t
    · rw [PyProof.Rows.lex_self]; simp [h0]; exact (PySem.W.dataLt_int 0 0).trans (by decide)
    · rw [PySem.W.lex_atom (by simp)]
      simp [h0]
      exact (PySem.W.dataLt_bool false true).trans (by decide)
    · rw [PySem.W.lex_atom (by simp)]
      simp [h0]
      exact (PySem.W.dataLt_bool true false).trans (by decide)
    · rw [PyProof.Rows.lex_self]; simp [h0]; exact (PySem.W.dataLt_int 0 0).trans (by decide)
  · rw [PySem.W.lex_atom (fun w => z (Sum.inl.inj w))]
    refine (PySem.W.dataLt_int a b).trans ?_
    simp [z]
theorem gt_D (a b : Int) (s t : Bool) : gGtD [.tup [.int a, .bl s], .tup [.int b, .bl t]] = some (.bl (decide (b < a ∨ b = a ∧ t = false ∧ s = true))) := by
  rw [← lt_ib]
  rfl
theorem lt_D (a b : Int) (s t : Bool) : gLtD [.tup [.int a, .bl s], .tup [.int b, .bl t]] = some (.bl (decide (a < b ∨ a = b ∧ s = false ∧ t = true))) := by
  rw [← lt_ib]
  rfl
theorem idx_t0 (c : Bd) : gIdx [tD c, .int 0] = some (.int c.1) := rfl
theorem idx_t1 (c : Bd) : gIdx [tD c, .int 1] = some (.int c.2.1) := rfl
theorem idx_t2 (c : Bd) : gIdx [tD c, .int 2] = some (.bl c.2.2) := rfl
theorem is_t (c : Bd) : gIs [tD c, .non] = some (.bl false) := rfl
theorem is_non : gIs [.non, .non] = some (.bl true) := rfl
theorem mul_g {i j : Int} {a b : Nat} (hi : i.natAbs ≤ 2 ^ a) (hj : j.natAbs ≤ 2 ^ b) (h : a + b ≤ 900000) : gMul [.int i, .int j] = some (.int (i * j)) := by
  show (if CMulA i j then some (D.int (i * j)) else none) = _
  rw [if_pos (mul_ok hi hj h)]
def lowStep (c : Bd) (o : Option Bd) : Option Bd := match o with
  | none => some c
  | some l => if l.1 * c.2.1 < c.1 * l.2.1 ∨ l.1 * c.2.1 = c.1 * l.2.1 ∧ l.2.2 = false ∧ c.2.2 = true then some c else some l
def highStep (c : Bd) (o : Option Bd) : Option Bd := match o with
  | none => some c
  | some l => if c.1 * l.2.1 < l.1 * c.2.1 ∨ c.1 * l.2.1 = l.1 * c.2.1 ∧ c.2.2 = true ∧ l.2.2 = false then some c else some l
theorem low_cons (c : Bd) (cs : List Bd) (o : Option Bd) : lowBest (c :: cs) o = lowBest cs (lowStep c o) := by cases o <;> rfl
theorem high_cons (c : Bd) (cs : List Bd) (o : Option Bd) : highBest (c :: cs) o = highBest cs (highStep c o) := by cases o <;> rfl
theorem near_t0 {c0 c1 c3 : Cell} {o : Option Bd} {c : Bd} {t u : Nat} (hb : t + u ≤ 100000) (hc : BdOk t u c) (ho : ∀ l, o = some l → BdOk t u l) :
    t0_nearest [c0, c1, .fro (bD o), c3, .fro (.int c.1), .fro (.int c.2.1), .fro (.bl c.2.2)] = .ok .nx [c0, c1, .fro (bD (lowStep c o)), c3, .fro (.int c.1), .fro (.int c.2.1), .fro (.bl c.2.2)] := by
  unfold t0_nearest lowStep
  cases o with
  | none => simp [bD, is_non, line3, tD]
  | some l =>
    have m1 := mul_g hc.1 (ho l rfl).2 (by omega)
    have m2 := mul_g (ho l rfl).1 hc.2 (by omega)
    have g := gt_D (c.1 * l.2.1) (l.1 * c.2.1) c.2.2 l.2.2
    by_cases z : l.1 * c.2.1 < c.1 * l.2.1 ∨ l.1 * c.2.1 = c.1 * l.2.1 ∧ l.2.2 = false ∧ c.2.2 = true
    · rw [decide_eq_true z] at g
      simp [bD, is_t, idx_t1, idx_t0, idx_t2, m1, m2, line2, g, z, line3]
      rfl
    · rw [decide_eq_false z] at g
      simp [bD, is_t, idx_t1, idx_t0, idx_t2, m1, m2, line2, g, z, line3]
theorem near_t1 {c0 c1 c2 : Cell} {o : Option Bd} {c : Bd} {t u : Nat} (hb : t + u ≤ 100000) (hc : BdOk t u c) (ho : ∀ l, o = some l → BdOk t u l) :
    t1_nearest [c0, c1, c2, .fro (bD o), .fro (.int c.1), .fro (.int c.2.1), .fro (.bl c.2.2)] = .ok .nx [c0, c1, c2, .fro (bD (highStep c o)), .fro (.int c.1), .fro (.int c.2.1), .fro (.bl c.2.2)] := by
  unfold t1_nearest highStep
  cases o with
  | none => simp [bD, is_non, line3, tD]
  | some l =>
    have m1 := mul_g hc.1 (ho l rfl).2 (by omega)
    have m2 := mul_g (ho l rfl).1 hc.2 (by omega)
    have g := lt_D (c.1 * l.2.1) (l.1 * c.2.1) (!c.2.2) (!l.2.2)
    have g2 : (c.1 * l.2.1 < l.1 * c.2.1 ∨ c.1 * l.2.1 = l.1 * c.2.1 ∧ (!c.2.2) = false ∧ (!l.2.2) = true) ↔ (c.1 * l.2.1 < l.1 * c.2.1 ∨ c.1 * l.2.1 = l.1 * c.2.1 ∧ c.2.2 = true ∧ l.2.2 = false) := by simp
    rw [decide_eq_decide.mpr g2] at g
    by_cases z : c.1 * l.2.1 < l.1 * c.2.1 ∨ c.1 * l.2.1 = l.1 * c.2.1 ∧ c.2.2 = true ∧ l.2.2 = false
    · rw [decide_eq_true z] at g
      simp [bD, is_t, idx_t1, idx_t0, idx_t2, m1, m2, line2, g, z, line3]
      rfl
    · rw [decide_eq_false z] at g
      simp [bD, is_t, idx_t1, idx_t0, idx_t2, m1, m2, line2, g, z, line3]
theorem tup3_go {a b c : D} {c0 c1 c2 c3 c4 c5 c6 : Cell} (h4 : ∀ d, c4 ≠ .io d) (h5 : ∀ d, c5 ≠ .io d) (h6 : ∀ d, c6 ≠ .io d) :
    gTup' 3 (gC (gSet 4) (gC (gSet 5) (gC (gSet 6) gN))) (.tup [a, b, c]) [c0, c1, c2, c3, c4, c5, c6] = .ok () [c0, c1, c2, c3, .fro a, .fro b, .fro c] := by
  show gC (gSet 4) (gC (gSet 5) (gC (gSet 6) gN)) [a, b, c] _ = _
  rw [ev_gC, gSet_ne rfl h4, R.bind_ok, ev_gC, gSet_ne rfl h5, R.bind_ok, ev_gC, gSet_ne rfl h6, R.bind_ok, ev_gN0]
  rfl
theorem near_l0 {c0 c1 c3 : Cell} {t u : Nat} (hb : t + u ≤ 100000) : ∀ {cs : List Bd} {o : Option Bd} {c4 c5 c6 : Cell}, (∀ c ∈ cs, BdOk t u c) → (∀ l, o = some l → BdOk t u l) → (∀ d, c4 ≠ .io d) → (∀ d, c5 ≠ .io d) → (∀ d, c6 ≠ .io d) →
    ∃ d4 d5 d6, (∀ d, d4 ≠ .io d) ∧ (∀ d, d5 ≠ .io d) ∧ (∀ d, d6 ≠ .io d) ∧ (∀ l, lowBest cs o = some l → BdOk t u l) ∧ forGo (gTup' 3 (gC (gSet 4) (gC (gSet 5) (gC (gSet 6) gN)))) t0_nearest (cs.map tD) [c0, c1, .fro (bD o), c3, c4, c5, c6] = .ok .nx [c0, c1, .fro (bD (lowBest cs o)), c3, d4, d5, d6]
  | [], o, c4, c5, c6, _, ho, h4, h5, h6 => ⟨c4, c5, c6, h4, h5, h6, ho, rfl⟩
  | c :: cs, o, c4, c5, c6, hc, ho, h4, h5, h6 => by
    have hc0 := hc c List.mem_cons_self
    obtain ⟨d4, d5, d6, k4, k5, k6, kl, e⟩ := near_l0 (c0 := c0) (c1 := c1) (c3 := c3) hb (cs := cs) (o := lowStep c o) (c4 := .fro (.int c.1)) (c5 := .fro (.int c.2.1)) (c6 := .fro (.bl c.2.2)) (fun x hx => hc x (List.mem_cons_of_mem _ hx)) (fun l z => by
        cases o with
        | none => cases z; exact hc0
        | some l' =>
          simp only [lowStep, highStep] at z
          split at z <;> cases z
          · exact hc0
          · exact ho _ rfl) (by simp) (by simp) (by simp)
    rw [low_cons]
    refine ⟨d4, d5, d6, k4, k5, k6, kl, ?_⟩
    rw [List.map_cons]
    unfold forGo
    rw [show tD c = .tup [.int c.1, .int c.2.1, .bl c.2.2] from rfl, tup3_go h4 h5 h6, R.bind_ok, near_t0 hb hc0 ho, R.bind_ok]
    exact e
theorem near_l1 {c0 c1 c2 : Cell} {t u : Nat} (hb : t + u ≤ 100000) : ∀ {cs : List Bd} {o : Option Bd} {c4 c5 c6 : Cell}, (∀ c ∈ cs, BdOk t u c) → (∀ l, o = some l → BdOk t u l) → (∀ d, c4 ≠ .io d) → (∀ d, c5 ≠ .io d) → (∀ d, c6 ≠ .io d) →
    ∃ d4 d5 d6, (∀ l, highBest cs o = some l → BdOk t u l) ∧ forGo (gTup' 3 (gC (gSet 4) (gC (gSet 5) (gC (gSet 6) gN)))) t1_nearest (cs.map tD) [c0, c1, c2, .fro (bD o), c4, c5, c6] = .ok .nx [c0, c1, c2, .fro (bD (highBest cs o)), d4, d5, d6]
  | [], o, c4, c5, c6, _, ho, h4, h5, h6 => ⟨c4, c5, c6, ho, rfl⟩
  | c :: cs, o, c4, c5, c6, hc, ho, h4, h5, h6 => by
    have hc0 := hc c List.mem_cons_self
    obtain ⟨d4, d5, d6, kl, e⟩ := near_l1 (c0 := c0) (c1 := c1) (c2 := c2) hb (cs := cs) (o := highStep c o) (c4 := .fro (.int c.1)) (c5 := .fro (.int c.2.1)) (c6 := .fro (.bl c.2.2)) (fun x hx => hc x (List.mem_cons_of_mem _ hx)) (fun l z => by
        cases o with
        | none => cases z; exact hc0
        | some l' =>
          simp only [lowStep, highStep] at z
          split at z <;> cases z
          · exact hc0
          · exact ho _ rfl) (by simp) (by simp) (by simp)
    rw [high_cons]
    refine ⟨d4, d5, d6, kl, ?_⟩
    rw [List.map_cons]
    unfold forGo
    rw [show tD c = .tup [.int c.1, .int c.2.1, .bl c.2.2] from rfl, tup3_go h4 h5 h6, R.bind_ok, near_t1 hb hc0 ho, R.bind_ok]
    exact e
def pairI (p : Int × Int) : D := .tup [.int p.1, .int p.2]
theorem nearest_ok {lows highs : List Bd} {t u : Nat} (hb : t + u ≤ 100000) (hl : ∀ c ∈ lows, BdOk t u c) (hh : ∀ c ∈ highs, BdOk t u c) : m_nearest [.lst (lows.map tD), .lst (highs.map tD)] = .ok (pairI (nearR lows highs)) [] := by
  obtain ⟨d4, d5, d6, k4, k5, k6, kl, e0⟩ := near_l0 (c0 := .fro (.lst (lows.map tD))) (c1 := .fro (.lst (highs.map tD))) (c3 := .fro .non) hb (cs := lows) (o := none) (c4 := .no) (c5 := .no) (c6 := .no) hl (fun l z => nomatch z) (by simp) (by simp) (by simp)
  obtain ⟨x4, x5, x6, kh, e1⟩ := near_l1 (c0 := .fro (.lst (lows.map tD))) (c1 := .fro (.lst (highs.map tD))) (c2 := .fro (bD (lowBest lows none))) hb (cs := highs) (o := none) hh (fun l z => nomatch z) k4 k5 k6
  have i0 : itemsD (.lst (lows.map tD)) = some (lows.map tD) := rfl
  have i1 : itemsD (.lst (highs.map tD)) = some (highs.map tD) := rfl
  unfold nearR
  show runP 7 2 b_nearest _ = _
  unfold runP b_nearest l0_nearest l1_nearest sFor
  have e0 : forGo (gTup' 3 (gC (gSet 4) (gC (gSet 5) (gC (gSet 6) gN)))) t0_nearest (lows.map tD) [.fro (.lst (lows.map tD)), .fro (.lst (highs.map tD)), .fro .non, .fro .non, .no, .no, .no] = _ := e0
  have e1 : forGo (gTup' 3 (gC (gSet 4) (gC (gSet 5) (gC (gSet 6) gN)))) t1_nearest (highs.map tD) [.fro (.lst (lows.map tD)), .fro (.lst (highs.map tD)), .fro (bD (lowBest lows none)), .fro .non, d4, d5, d6] = _ := e1
  cases el : lowBest lows none with
  | none =>
    rw [el] at e0 e1
    have e0 : forGo (gTup' 3 (gC (gSet 4) (gC (gSet 5) (gC (gSet 6) gN)))) t0_nearest (lows.map tD) [.fro (.lst (lows.map tD)), .fro (.lst (highs.map tD)), .fro .non, .fro .non, .no, .no, .no] = .ok .nx [.fro (.lst (lows.map tD)), .fro (.lst (highs.map tD)), .fro .non, .fro .non, d4, d5, d6] := e0
    cases eh : highBest highs none with
    | none =>
      rw [eh] at e1
      have e1 : forGo (gTup' 3 (gC (gSet 4) (gC (gSet 5) (gC (gSet 6) gN)))) t1_nearest (highs.map tD) [.fro (.lst (lows.map tD)), .fro (.lst (highs.map tD)), .fro .non, .fro .non, d4, d5, d6] = .ok .nx [.fro (.lst (lows.map tD)), .fro (.lst (highs.map tD)), .fro .non, .fro .non, x4, x5, x6] := e1
      simp [i0, i1, line2, e0, e1, is_non, midB, pairI]
    | some h =>
      rw [eh] at e1
      have e1 : forGo (gTup' 3 (gC (gSet 4) (gC (gSet 5) (gC (gSet 6) gN)))) t1_nearest (highs.map tD) [.fro (.lst (lows.map tD)), .fro (.lst (highs.map tD)), .fro .non, .fro .non, d4, d5, d6] = .ok .nx [.fro (.lst (lows.map tD)), .fro (.lst (highs.map tD)), .fro .non, .fro (tD h), x4, x5, x6] := e1
      cases hs : h.2.2 <;> simp [i0, i1, line2, e0, e1, is_non, is_t, idx_t0, idx_t1, idx_t2, midB, pairI, hs, gSub, gI]
  | some l =>
    rw [el] at e0 e1
    have e0 : forGo (gTup' 3 (gC (gSet 4) (gC (gSet 5) (gC (gSet 6) gN)))) t0_nearest (lows.map tD) [.fro (.lst (lows.map tD)), .fro (.lst (highs.map tD)), .fro .non, .fro .non, .no, .no, .no] = .ok .nx [.fro (.lst (lows.map tD)), .fro (.lst (highs.map tD)), .fro (tD l), .fro .non, d4, d5, d6] := e0
    have bl := kl l el
    cases eh : highBest highs none with
    | none =>
      rw [eh] at e1
      have e1 : forGo (gTup' 3 (gC (gSet 4) (gC (gSet 5) (gC (gSet 6) gN)))) t1_nearest (highs.map tD) [.fro (.lst (lows.map tD)), .fro (.lst (highs.map tD)), .fro (tD l), .fro .non, d4, d5, d6] = .ok .nx [.fro (.lst (lows.map tD)), .fro (.lst (highs.map tD)), .fro (tD l), .fro .non, x4, x5, x6] := e1
      cases hs : l.2.2 <;> simp [i0, i1, line2, e0, e1, is_non, is_t, idx_t0, idx_t1, idx_t2, midB, pairI, hs, gAdd]
    | some h =>
      have bh := kh h eh
      rw [eh] at e1
      have e1 : forGo (gTup' 3 (gC (gSet 4) (gC (gSet 5) (gC (gSet 6) gN)))) t1_nearest (highs.map tD) [.fro (.lst (lows.map tD)), .fro (.lst (highs.map tD)), .fro (tD l), .fro .non, d4, d5, d6] = .ok .nx [.fro (.lst (lows.map tD)), .fro (.lst (highs.map tD)), .fro (tD l), .fro (tD h), x4, x5, x6] := e1
      have m1 := mul_g bl.1 bh.2 (by omega)
      have m2 := mul_g bh.1 bl.2 (by omega)
      have m3 : gMul [.int 2, .int l.2.1] = some (.int (2 * l.2.1)) := mul_g (a := 1) (by decide) bl.2 (by omega)
      have n3 : (2 * l.2.1).natAbs ≤ 2 ^ (u + 1) := by have := bl.2; rw [Nat.pow_succ]; omega
      have m4 := mul_g n3 bh.2 (by omega)
      have q : gEq [.int (l.1 * h.2.1), .int (h.1 * l.2.1)] = some (.bl (l.1 * h.2.1 == h.1 * l.2.1)) := rfl
      by_cases hs : l.2.2 = false
      · simp [i0, i1, line2, e0, e1, is_non, is_t, idx_t0, idx_t1, idx_t2, midB, pairI, hs]
      · have hs' : l.2.2 = true := by simpa using hs
        by_cases z : l.1 * h.2.1 = h.1 * l.2.1
        · have q2 : gEq [.int (h.1 * l.2.1), .int (h.1 * l.2.1)] = some (.bl true) := by simp [gEq, eqD_int]
          simp [i0, i1, line2, e0, e1, is_non, is_t, idx_t0, idx_t1, idx_t2, midB, pairI, hs', m1, m2, q2, z]
        · have z' : (l.1 * h.2.1 == h.1 * l.2.1) = false := by simpa using z
          simp [i0, i1, line2, e0, e1, is_non, is_t, idx_t0, idx_t1, idx_t2, midB, pairI, hs', m1, m2, m3, m4, q, z, z', gAdd]
/-! ### how large -/
theorem near_b {lows highs : List Bd} {t u : Nat} (hl : ∀ c ∈ lows, BdOk t u c) (hh : ∀ c ∈ highs, BdOk t u c) (pl : ∀ c ∈ lows, 0 < c.2.1) (ph : ∀ c ∈ highs, 0 < c.2.1) : (nearR lows highs).1.natAbs ≤ 2 ^ t * 2 ^ u + 2 ^ t * 2 ^ u + 2 ^ u ∧ (nearR lows highs).2.natAbs ≤ 2 ^ u * 2 ^ u + 2 ^ u * 2 ^ u := by
  obtain ⟨l1, _, _⟩ := lowBest_ok (o := none) pl (fun c z => nomatch z)
  obtain ⟨h1, _, _⟩ := highBest_ok (o := none) ph (fun c z => nomatch z)
  have hlo : ∀ c, lowBest lows none = some c → BdOk t u c := fun c z => hl c ((l1 c z).2.resolve_right fun z => nomatch z)
  have hhi : ∀ c, highBest highs none = some c → BdOk t u c := fun c z => hh c ((h1 c z).2.resolve_right fun z => nomatch z)
  have p1 : 1 ≤ 2 ^ u := Nat.one_le_two_pow
  have p2 : 2 ^ u ≤ 2 ^ u * 2 ^ u := Nat.le_mul_of_pos_left _ p1
  have p3 : 2 ^ t ≤ 2 ^ t * 2 ^ u := Nat.le_mul_of_pos_right _ p1
  unfold nearR
  cases el : lowBest lows none with
  | none =>
    cases eh : highBest highs none with
    | none => simp only [midB]; omega
    | some h =>
      have := hhi h eh
      unfold BdOk at this
      simp only [midB]
      split <;> omega
  | some l =>
    have bl := hlo l el
    cases eh : highBest highs none with
    | none =>
      unfold BdOk at bl
      simp only [midB]
      split <;> omega
    | some h =>
      have bh := hhi h eh
      have m1 : (l.1 * h.2.1).natAbs ≤ 2 ^ t * 2 ^ u := by rw [Int.natAbs_mul]; exact Nat.mul_le_mul bl.1 bh.2
      have m2 : (h.1 * l.2.1).natAbs ≤ 2 ^ t * 2 ^ u := by rw [Int.natAbs_mul]; exact Nat.mul_le_mul bh.1 bl.2
      have m3 : (l.2.1 * h.2.1).natAbs ≤ 2 ^ u * 2 ^ u := by rw [Int.natAbs_mul]; exact Nat.mul_le_mul bl.2 bh.2
      unfold BdOk at bl bh
      simp only [midB]
      split
      · simp only; omega
      · split
        · simp only; omega
        · have e : 2 * l.2.1 * h.2.1 = 2 * (l.2.1 * h.2.1) := Int.mul_assoc ..
          simp only [e]
          omega
end Lw

/-! found_in: integers that hold a system, or weights that bar it. -/
namespace Lw
open Dt PySem
theorem cdiv_ok {i d : Int} (h : Small d) : L2.CDivW i d := h
/-! ### value_of -/
theorem zip_dot (f x : List Int) : ((f.zip x).map fun p => p.1 * p.2).sum = dot f x := by
  induction f generalizing x with
  | nil => rfl
  | cons a f ih => cases x with
    | nil => rfl
    | cons b x => simp only [List.zip_cons_cons, List.map_cons, List.sum_cons, dot, ih]
theorem intsOf_map {α : Type} (g : α → Int) : ∀ xs : List α, intsOf (xs.map fun x => D.int (g x)) = some (xs.map g)
  | [] => rfl
  | x :: xs => by
    rw [List.map_cons, List.map_cons]
    show (intsOf (xs.map fun x => D.int (g x))).map (fun r => g x :: r) = _
    rw [intsOf_map g xs]
    rfl
theorem value_ok {d e : D} {f x : List Int} {a b : Nat} (hd : d = .tup (f.map .int) ∨ d = .lst (f.map .int)) (he : e = .tup (x.map .int) ∨ e = .lst (x.map .int)) (hf : ∀ y ∈ f, y.natAbs ≤ 2 ^ a) (hx : ∀ y ∈ x, y.natAbs ≤ 2 ^ b) (hab : a + b ≤ 900000) (hl : f.length ≤ 1000) : m_value_of [d, e] = .ok (.int (dot f x)) [] := by
  have sd : seqD d = some (f.map .int) := by rcases hd with rfl | rfl <;> rfl
  have se : seqD e = some (x.map .int) := by rcases he with rfl | rfl <;> rfl
  have hc : compGo [2, 3] (gTup' 2 (gC (gSet 2) (gC (gSet 3) gN))) tT1 (sOps gMul (b2 (sLoc 2) (sLoc 3))) ((f.zip x).map fun p => .arg [.int p.1, .int p.2]) [.fro d, .fro e, .no, .no] = .ok ((f.zip x).map fun p => .int (p.1 * p.2)) [.fro d, .fro e, .no, .no] := by
    refine comp_gen (enc := fun p : Int × Int => D.arg [.int p.1, .int p.2]) (F := fun p : Int × Int => D.int (p.1 * p.2)) fun p hp => ?_
    have m1 := mul_g (hf _ (List.of_mem_zip hp).1) (hx _ (List.of_mem_zip hp).2) hab
    exact ⟨[.fro d, .fro e, .fro (.int p.1), .fro (.int p.2)], [.fro d, .fro e, .fro (.int p.1), .fro (.int p.2)], by simp, by simp [m1], by simp [plainAt], by simp [wipeE]⟩
  have e0 : c0_value_of [.fro d, .fro e, .no, .no] = .ok (.lst ((f.zip x).map fun p => .int (p.1 * p.2))) [.fro d, .fro e, .no, .no] :=
    scomp_ok (ds := pairUp (f.map D.int) (x.map D.int)) (by simp [zipG, sd, se]) (by simp [plainAt]) (zip_len hl) (by simp [wipeE]) (by rw [pair_zip]; exact hc) (by simp [backE])
  show runP 4 2 b_value_of _ = _
  unfold runP b_value_of
  simp [e0, gSum, intsOf_map (fun p : Int × Int => p.1 * p.2), zip_dot]
theorem dot_b {A B : Nat} : ∀ {f x : List Int}, (∀ y ∈ f, y.natAbs ≤ A) → (∀ y ∈ x, y.natAbs ≤ B) → (dot f x).natAbs ≤ x.length * (A * B)
  | [], x, _, _ => by simp [dot]
  | _ :: _, [], _, _ => by simp [dot]
  | a :: f, b :: x, hf, hx => by
    have ih := dot_b (f := f) (x := x) (fun y hy => hf y (List.mem_cons_of_mem _ hy)) (fun y hy => hx y (List.mem_cons_of_mem _ hy))
    have m : (a * b).natAbs ≤ A * B := by rw [Int.natAbs_mul]; exact Nat.mul_le_mul (hf a List.mem_cons_self) (hx b List.mem_cons_self)
    have := Int.natAbs_add_le (a * b) (dot f x)
    simp only [dot, List.length_cons]
    rw [Nat.add_mul, Nat.one_mul]
    omega
theorem dot_take : ∀ (f x : List Int), dot (f.take x.length) x = dot f x
  | [], x => by simp
  | a :: f, [] => by simp [dot]
  | a :: f, b :: x => by simp only [List.length_cons, List.take_succ_cons, dot, dot_take f x]
theorem slice_ints {f : List Int} {p : Nat} (h : p ≤ f.length) : sliceD (intsD f) none (some (p : Nat)) = some (intsD (f.take p)) := by
  show some (D.tup (cutD (f.map D.int) none (some (p : Nat)))) = _
  have : cutD (f.map D.int) none (some ((p : Nat) : Int)) = (f.take p).map D.int := by
    have h1 : ¬ ((p : Nat) : Int) < 0 := by omega
    have h2 : HT.sIx (f.map D.int).length (f.map D.int).length (some ((p : Nat) : Int)) = p := by
      simp only [HT.sIx, List.length_map]
      first | omega | (split <;> omega) | simp [h]
    have h3 : HT.sIx (f.map D.int).length 0 none = 0 := rfl
    unfold cutD
    rw [h2, h3]
    simp [List.map_take]
  rw [this]
  rfl
/-! ### bounds of one place -/
def lowD (r : Rw) (p : Nat) (x : List Int) : List D := if at0 r p > 0 then [tD (-(dot r.2.1 x), at0 r p, r.1)] else []
def highD (r : Rw) (p : Nat) (x : List Int) : List D := if at0 r p < 0 then [tD (dot r.2.1 x, -(at0 r p), r.1)] else []
theorem lows_cons (r : Rw) (rs : List Rw) (p : Nat) (x : List Int) : (lowsOf (r :: rs) p x).map tD = lowD r p x ++ (lowsOf rs p x).map tD := by
  unfold lowsOf lowD
  by_cases z : at0 r p > 0
  · rw [List.filter_cons_of_pos (by simpa using z), if_pos z]; rfl
  · rw [List.filter_cons_of_neg (by simpa using z), if_neg z]; rfl
theorem highs_cons (r : Rw) (rs : List Rw) (p : Nat) (x : List Int) : (highsOf (r :: rs) p x).map tD = highD r p x ++ (highsOf rs p x).map tD := by
  unfold highsOf highD
  by_cases z : at0 r p < 0
  · rw [List.filter_cons_of_pos (by simpa using z), if_pos z]; rfl
  · rw [List.filter_cons_of_neg (by simpa using z), if_neg z]; rfl
theorem in_turn {c0 c1 c2 c3 c4 c5 c7 c12 c13 c14 c15 c16 : Cell} {x : List Int} {r : Rw} {m n u t : Nat} {L U : List D} (h5 : c5 = .own (.lst (x.map .int)) ∨ c5 = .fro (.lst (x.map .int))) (hr : RowOk u m n r) (hx : ∀ y ∈ x, y.natAbs ≤ 2 ^ t) (htu : u + t ≤ 900000) (hm : m ≤ 1000) (hp : x.length < m)
    (h13 : ∀ d, c13 ≠ .io d) (hL : L.length < sizeLine) (hU : U.length < sizeLine) :
    t0_found_in [c0, c1, c2, c3, c4, c5, .fro (.int (x.length : Nat)), c7, .own (.lst L), .own (.lst U), .fro (.bl r.1), .fro (intsD r.2.1), c12, c13, c14, c15, c16] =
      .ok .nx [c0, c1, c2, c3, c4, .fro (.lst (x.map .int)), .fro (.int (x.length : Nat)), c7, .own (.lst (L ++ lowD r x.length x)), .own (.lst (U ++ highD r x.length x)), .fro (.bl r.1), .fro (intsD r.2.1), c12, .fro (.int (dot r.2.1 x)), c14, c15, c16] := by
  have hl := hr.f
  have ev := value_ok (d := intsD (r.2.1.take x.length)) (e := .lst (x.map .int)) (f := r.2.1.take x.length) (x := x) (a := u) (b := t) (.inl rfl) (.inr rfl) (fun y hy => hr.b.1 y (List.mem_of_mem_take hy)) hx htu (by rw [List.length_take]; omega)
  rw [dot_take] at ev
  have es := slice_ints (f := r.2.1) (p := x.length) (by omega)
  have c : sCallP 2 (m_value_of) (sCons (sSlice (sLoc 11) sPn (sPe (sVar 6))) (sCons (sVar 5) sNil)) [c0, c1, c2, c3, c4, c5, .fro (.int (x.length : Nat)), c7, .own (.lst L), .own (.lst U), .fro (.bl r.1), .fro (intsD r.2.1), c12, c13, c14, c15, c16] =
      .ok (.int (dot r.2.1 x)) [c0, c1, c2, c3, c4, .fro (.lst (x.map .int)), .fro (.int (x.length : Nat)), c7, .own (.lst L), .own (.lst U), .fro (.bl r.1), .fro (intsD r.2.1), c12, c13, c14, c15, c16] := by
    refine call2 (d := intsD (r.2.1.take x.length)) (d2 := .lst (x.map .int)) (ρ' := [c0, c1, c2, c3, c4, c5, .fro (.int (x.length : Nat)), c7, .own (.lst L), .own (.lst U), .fro (.bl r.1), .fro (intsD r.2.1), c12, c13, c14, c15, c16]) (by simp [es]) ?_ ev
    rcases h5 with rfl | rfl <;> simp
  have ei := idx_ints (f := r.2.1) (p := x.length) (by omega)
  have ei : gIdx [intsD r.2.1, .int (x.length : Nat)] = some (.int (at0 r x.length)) := ei
  unfold t0_found_in
  rw [ev_seq, ev_asg, c, R.bind_ok, gSet_ne rfl h13, R.bind_ok]
  show (i0_found_in [c0, c1, c2, c3, c4, .fro (.lst (x.map .int)), .fro (.int (x.length : Nat)), c7, .own (.lst L), .own (.lst U), .fro (.bl r.1), .fro (intsD r.2.1), c12, .fro (.int (dot r.2.1 x)), c14, c15, c16]) = _
  unfold i0_found_in lowD highD
  rcases Int.lt_trichotomy (at0 r x.length) 0 with z | z | z
  · have z2 : ¬ 0 < at0 r x.length := by omega
    simp [ei, gGt, gLt, lexI, z, z2, gNeg, line3, mAppend, hU]
    rfl
  · have z2 : ¬ 0 < at0 r x.length := by omega
    have z3 : ¬ at0 r x.length < 0 := by omega
    simp [ei, gGt, gLt, lexI, z2, z3]
  · have z2 : ¬ at0 r x.length < 0 := by omega
    simp [ei, gGt, gLt, lexI, z, z2, gNeg, line3, mAppend, hL]
    rfl
theorem in_loop {c0 c1 c2 c3 c4 c7 c14 c15 c16 : Cell} {x : List Int} {m n u t : Nat} (hx : ∀ y ∈ x, y.natAbs ≤ 2 ^ t) (htu : u + t ≤ 900000) (hm : m ≤ 1000) (hp : x.length < m) :
    ∀ {rs : List Rw} {L U : List D} {c5 c10 c11 c12 c13 : Cell}, (c5 = .own (.lst (x.map .int)) ∨ c5 = .fro (.lst (x.map .int))) → (∀ r ∈ rs, RowOk u m n r) → L.length + rs.length ≤ sizeLine → U.length + rs.length ≤ sizeLine → (∀ d, c10 ≠ .io d) → (∀ d, c11 ≠ .io d) → (∀ d, c12 ≠ .io d) → (∀ d, c13 ≠ .io d) →
    ∃ d5 d10 d11 d12 d13, (d5 = .own (.lst (x.map .int)) ∨ d5 = .fro (.lst (x.map .int))) ∧ (∀ d, d10 ≠ .io d) ∧ (∀ d, d11 ≠ .io d) ∧ (∀ d, d12 ≠ .io d) ∧ (∀ d, d13 ≠ .io d) ∧
      forGo (gTup' 3 (gC (gSet 10) (gC (gSet 11) (gC (gSet 12) gN)))) t0_found_in (rs.map rowD) [c0, c1, c2, c3, c4, c5, .fro (.int (x.length : Nat)), c7, .own (.lst L), .own (.lst U), c10, c11, c12, c13, c14, c15, c16] =
        .ok .nx [c0, c1, c2, c3, c4, d5, .fro (.int (x.length : Nat)), c7, .own (.lst (L ++ (lowsOf rs x.length x).map tD)), .own (.lst (U ++ (highsOf rs x.length x).map tD)), d10, d11, d12, d13, c14, c15, c16]
  | [], L, U, c5, c10, c11, c12, c13, h5, _, _, _, k10, k11, k12, k13 => ⟨c5, c10, c11, c12, c13, h5, k10, k11, k12, k13, by simp [lowsOf, highsOf, forGo]⟩
  | r :: rs, L, U, c5, c10, c11, c12, c13, h5, hr, hL, hU, k10, k11, k12, k13 => by
    have r0 := hr r List.mem_cons_self
    rw [List.length_cons] at hL hU
    have ll : (lowD r x.length x).length ≤ 1 := by unfold lowD; split <;> simp
    have lh : (highD r x.length x).length ≤ 1 := by unfold highD; split <;> simp
    obtain ⟨d5, d10, d11, d12, d13, i5, i10, i11, i12, i13, e⟩ := in_loop (c0 := c0) (c1 := c1) (c2 := c2) (c3 := c3) (c4 := c4) (c7 := c7) (c14 := c14) (c15 := c15) (c16 := c16) hx htu hm hp (rs := rs) (L := L ++ lowD r x.length x) (U := U ++ highD r x.length x)
      (c5 := .fro (.lst (x.map .int))) (c10 := .fro (.bl r.1)) (c11 := .fro (intsD r.2.1)) (c12 := .fro (intsD r.2.2)) (c13 := .fro (.int (dot r.2.1 x))) (.inr rfl) (fun q hq => hr q (List.mem_cons_of_mem _ hq)) (by rw [List.length_append]; omega) (by rw [List.length_append]; omega) (by simp) (by simp) (by simp) (by simp)
    refine ⟨d5, d10, d11, d12, d13, i5, i10, i11, i12, i13, ?_⟩
    have eg : gTup' 3 (gC (gSet 10) (gC (gSet 11) (gC (gSet 12) gN))) (rowD r) [c0, c1, c2, c3, c4, c5, .fro (.int (x.length : Nat)), c7, .own (.lst L), .own (.lst U), c10, c11, c12, c13, c14, c15, c16] = .ok () [c0, c1, c2, c3, c4, c5, .fro (.int (x.length : Nat)), c7, .own (.lst L), .own (.lst U), .fro (.bl r.1), .fro (intsD r.2.1), .fro (intsD r.2.2), c13, c14, c15, c16] := by
      show gC (gSet 10) (gC (gSet 11) (gC (gSet 12) gN)) [.bl r.1, intsD r.2.1, intsD r.2.2] _ = _
      rw [ev_gC, gSet_ne rfl k10, R.bind_ok, ev_gC, gSet_ne rfl k11, R.bind_ok, ev_gC, gSet_ne rfl k12, R.bind_ok, ev_gN0]
      rfl
    rw [List.map_cons]
    unfold forGo
    rw [eg, R.bind_ok, in_turn h5 r0 hx htu hm hp k13 (by omega) (by omega), R.bind_ok, lows_cons, highs_cons, ← List.append_assoc, ← List.append_assoc]
    exact e
/-! ### one place -/
structure NumOk (p : Nat) (x : List Int) : Prop where
  len : x.length = p
  small : ∀ y ∈ x, y.natAbs ≤ 2 ^ (1010 * p)
theorem near_pos {lows highs : List Bd} (pl : ∀ c ∈ lows, 0 < c.2.1) (ph : ∀ c ∈ highs, 0 < c.2.1) (room : ∀ c ∈ lows, ∀ d ∈ highs, c.1 * d.2.1 ≤ d.1 * c.2.1 ∧ ((c.2.2 || d.2.2) = true → c.1 * d.2.1 < d.1 * c.2.1)) : 0 < (nearR lows highs).2 := by
  obtain ⟨l1, _, l3⟩ := lowBest_ok (o := none) pl (fun c z => nomatch z)
  obtain ⟨h1, _, h3⟩ := highBest_ok (o := none) ph (fun c z => nomatch z)
  exact (mid_ok (fun c z => (l1 c z).1) (fun c z => (h1 c z).1) fun c d zc zd => room c ((l1 c zc).2.resolve_right fun z => nomatch z) d ((h1 d zd).2.resolve_right fun z => nomatch z)).1
theorem room_ok {rows : List Rw} {m : Nat} {x : List Int} (hl : ∀ r ∈ rows, r.2.1.length = m) (hx : ∀ r ∈ withoutR rows x.length, Hd r.1 r.2.1 x) :
    ∀ c ∈ lowsOf rows x.length x, ∀ d ∈ highsOf rows x.length x, c.1 * d.2.1 ≤ d.1 * c.2.1 ∧ ((c.2.2 || d.2.2) = true → c.1 * d.2.1 < d.1 * c.2.1) := fun c mc d md => by
  obtain ⟨lo, hlo, rfl⟩ := List.mem_map.mp mc
  obtain ⟨hi, hhi, rfl⟩ := List.mem_map.mp md
  rw [List.mem_filter] at hlo hhi
  have a1 : 0 < at0 lo x.length := by simpa using hlo.2
  have a2 : at0 hi x.length < 0 := by simpa using hhi.2
  have q := hx _ (without_mem.mpr (.inr ⟨lo, hlo.1, hi, hhi.1, a1, a2, rfl⟩))
  simp only [summedR, Hd] at q
  rw [dot_comb _ _ _ ((hl lo hlo.1).trans (hl hi hhi.1).symm)] at q
  simp only
  have e1 : -(dot lo.2.1 x) * -(at0 hi x.length) = -(-(at0 hi x.length) * dot lo.2.1 x) := by rw [Int.neg_mul, Int.mul_comm]
  have e2 : dot hi.2.1 x * at0 lo x.length = at0 lo x.length * dot hi.2.1 x := Int.mul_comm ..
  rw [e1, e2]
  exact ⟨by have := q.1; omega, fun z => by have := q.2 z; omega⟩
theorem lows_pos {rows : List Rw} {p : Nat} {x : List Int} : ∀ c ∈ lowsOf rows p x, 0 < c.2.1 := fun c hc => by
  obtain ⟨r, hr, rfl⟩ := List.mem_map.mp hc
  simpa using (List.mem_filter.mp hr).2
theorem highs_pos {rows : List Rw} {p : Nat} {x : List Int} : ∀ c ∈ highsOf rows p x, 0 < c.2.1 := fun c hc => by
  obtain ⟨r, hr, rfl⟩ := List.mem_map.mp hc
  have : at0 r p < 0 := by simpa using (List.mem_filter.mp hr).2
  show 0 < -(at0 r p)
  omega
theorem bounds_b {rows : List Rw} {m n p : Nat} {x : List Int} (hp : p ≤ 4) (hr : ∀ r ∈ rows, RowOk 500 m n r) (hx : NumOk p x) :
    (∀ c ∈ lowsOf rows p x, BdOk (1010 * p + 502) 500 c) ∧ ∀ c ∈ highsOf rows p x, BdOk (1010 * p + 502) 500 c := by
  have db : ∀ r ∈ rows, (dot r.2.1 x).natAbs ≤ 2 ^ (1010 * p + 502) := fun r h => by
    have := dot_b (hr r h).b.1 hx.small
    rw [hx.len] at this
    have e : 2 ^ (1010 * p + 502) = 4 * (2 ^ 500 * 2 ^ (1010 * p)) := by
      rw [show 1010 * p + 502 = 500 + 1010 * p + 2 by omega, Nat.pow_add, Nat.pow_add, Nat.mul_comm]
    rw [e]
    exact Nat.le_trans this (Nat.mul_le_mul_right _ hp)
  refine ⟨fun c hc => ?_, fun c hc => ?_⟩
  · obtain ⟨r, h, rfl⟩ := List.mem_map.mp hc
    have h := (List.mem_filter.mp h).1
    exact ⟨by show (-(dot r.2.1 x)).natAbs ≤ _; rw [Int.natAbs_neg]; exact db r h, at0_b (hr r h) p⟩
  · obtain ⟨r, h, rfl⟩ := List.mem_map.mp hc
    have h := (List.mem_filter.mp h).1
    exact ⟨db r h, by show (-(at0 r p)).natAbs ≤ _; rw [Int.natAbs_neg]; exact at0_b (hr r h) p⟩
def nextX (rows : List Rw) (x : List Int) : List Int :=
  let q := nearR (lowsOf rows x.length x) (highsOf rows x.length x)
  x.map (q.2 / big1 [q.1, q.2] * ·) ++ [q.1 / big1 [q.1, q.2]]
theorem big_near {a b : Int} (hb : 0 < b) : big1 [a, b] * (a / big1 [a, b]) = a ∧ big1 [a, b] * (b / big1 [a, b]) = b ∧ big1 [a, b] ≤ b :=
  ⟨Int.mul_ediv_cancel' (big1_dvd (by simp)), Int.mul_ediv_cancel' (big1_dvd (by simp)), Int.le_of_dvd hb (big1_dvd (by simp))⟩
theorem next_x {rows : List Rw} {m n : Nat} {x : List Int} {p : Nat} (hp : p < 4) (hr : ∀ r ∈ rows, RowOk 500 m n r) (hN : NumOk p x) (hx : ∀ r ∈ withoutR rows x.length, Hd r.1 r.2.1 x) :
    NumOk (p + 1) (nextX rows x) ∧ (∀ r ∈ rows, Hd r.1 r.2.1 (nextX rows x)) ∧ Small (big1 [(nearR (lowsOf rows x.length x) (highsOf rows x.length x)).1, (nearR (lowsOf rows x.length x) (highsOf rows x.length x)).2]) ∧
      ((nearR (lowsOf rows x.length x) (highsOf rows x.length x)).2 / big1 [(nearR (lowsOf rows x.length x) (highsOf rows x.length x)).1, (nearR (lowsOf rows x.length x) (highsOf rows x.length x)).2]).natAbs ≤ 2 ^ 1001 := by
  have hl : ∀ r ∈ rows, r.2.1.length = m := fun r h => (hr r h).f
  have pos := near_pos (lows_pos (rows := rows) (p := x.length) (x := x)) highs_pos (room_ok hl hx)
  have bb := bounds_b (p := p) (by omega) hr hN
  have nb := near_b bb.1 bb.2 lows_pos highs_pos
  rw [← hN.len] at nb
  unfold nextX
  simp only
  generalize hq : nearR (lowsOf rows x.length x) (highsOf rows x.length x) = q at *
  obtain ⟨a, b⟩ := q
  simp only at *
  obtain ⟨e1, e2, e3⟩ := big_near (a := a) pos
  have gp := big1_pos [a, b]
  have nx := next_ok (rows := rows) (m := m) (x := x) (g := big1 [a, b]) (T := a / big1 [a, b]) (B := b / big1 [a, b]) hl hx (by rw [hq, e1, e2]) gp
  have pw : 2 ^ 1001 = 2 ^ 500 * 2 ^ 500 + 2 ^ 500 * 2 ^ 500 := pow_two 500
  have hB : (b / big1 [a, b]).natAbs ≤ 2 ^ 1001 := by rw [pw]; exact div_le gp (big1_dvd (by simp)) nb.2
  have hT : (a / big1 [a, b]).natAbs ≤ 2 ^ (1010 * (p + 1)) := by
    refine div_le gp (big1_dvd (by simp)) (Nat.le_trans nb.1 ?_)
    rw [hN.len, ← Nat.pow_add, show 1010 * (p + 1) = 1010 * p + 502 + 500 + 8 by omega, Nat.pow_add 2 (1010 * p + 502 + 500) 8]
    have : 2 ^ 500 ≤ 2 ^ (1010 * p + 502 + 500) := pow_mono (by omega)
    omega
  refine ⟨⟨by simp [hN.len], fun y hy => ?_⟩, nx.2, ⟨gp, ?_⟩, hB⟩
  · rcases List.mem_append.mp hy with hy | hy
    · obtain ⟨z, hz, rfl⟩ := List.mem_map.mp hy
      show (b / big1 [a, b] * z).natAbs ≤ _
      rw [Int.natAbs_mul, show 1010 * (p + 1) = 1001 + (1010 * p + 9) by omega, Nat.pow_add]
      exact Nat.mul_le_mul hB (Nat.le_trans (hN.small z hz) (pow_mono (by omega)))
    · rw [List.mem_singleton.mp hy]; exact hT
  · have : (big1 [a, b]).natAbs ≤ 2 ^ 1001 := by rw [pw]; omega
    have := log_le this
    omega
theorem fi_turn {c0 c1 c3 c5 c7 c8 c9 c10 c11 c12 c13 c14 c15 : Cell} {Ls : List (List Rw)} {rows : List Rw} {x : List Int} {m n p : Nat} (hm : m ≤ 4) (hp : p < m) (hs : Ls.length = m + 1) (er : Ls.getD (m - 1 - p) [] = rows) (hr : ∀ r ∈ rows, RowOk 500 m n r) (hz : rows.length ≤ sizeLine) (hN : NumOk p x)
    (hx : ∀ r ∈ withoutR rows x.length, Hd r.1 r.2.1 x) (h5 : c5 = .own (.lst (x.map .int)) ∨ c5 = .fro (.lst (x.map .int)))
    (k7 : ∀ d, c7 ≠ .io d) (k8 : ∀ d, c8 ≠ .io d) (k9 : ∀ d, c9 ≠ .io d) (k10 : ∀ d, c10 ≠ .io d) (k11 : ∀ d, c11 ≠ .io d) (k12 : ∀ d, c12 ≠ .io d) (k13 : ∀ d, c13 ≠ .io d) (k14 : ∀ d, c14 ≠ .io d) (k15 : ∀ d, c15 ≠ .io d) :
    ∃ d7 d8 d9 d10 d11 d12 d13 d14 d15, (∀ d, d7 ≠ .io d) ∧ (∀ d, d8 ≠ .io d) ∧ (∀ d, d9 ≠ .io d) ∧ (∀ d, d10 ≠ .io d) ∧ (∀ d, d11 ≠ .io d) ∧ (∀ d, d12 ≠ .io d) ∧ (∀ d, d13 ≠ .io d) ∧ (∀ d, d14 ≠ .io d) ∧ (∀ d, d15 ≠ .io d) ∧
      t1_found_in [c0, c1, .fro (.lst (Ls.map stD)), c3, .fro (.int (m : Nat)), c5, .fro (.int (p : Nat)), c7, c8, c9, c10, c11, c12, c13, c14, c15, .no] =
        .ok .nx [c0, c1, .fro (.lst (Ls.map stD)), c3, .fro (.int (m : Nat)), .fro (.lst ((nextX rows x).map .int)), .fro (.int (p : Nat)), d7, d8, d9, d10, d11, d12, d13, d14, d15, .no] := by
  obtain ⟨nN, nH, nS, nB⟩ := next_x (p := p) (by omega) hr hN hx
  have bb := bounds_b (p := p) (by omega) hr hN
  have xl := hN.len
  subst xl
  obtain ⟨d5, d10, d11, d12, d13, i5, i10, i11, i12, i13, e⟩ := in_loop (c0 := c0) (c1 := c1) (c2 := .fro (.lst (Ls.map stD))) (c3 := c3) (c4 := .fro (.int (m : Nat))) (c7 := c7) (c14 := c14) (c15 := c15) (c16 := .no) (x := x) (u := 500) (t := 1010 * x.length) hN.small (by omega) (by omega) hp (rs := rows) (L := []) (U := []) (c5 := c5) (c10 := c10) (c11 := c11) (c12 := c12) (c13 := c13) h5 hr (by simpa using hz) (by simpa using hz) k10 k11 k12 k13
  rw [List.nil_append, List.nil_append] at e
  have near := nearest_ok (t := 1010 * x.length + 502) (u := 500) (by omega) bb.1 bb.2
  have eidx : gIdx [.lst (Ls.map stD), .int ((m : Int) - 1 - (x.length : Nat))] = some (stD rows) := by
    have e1 : ((m : Int) - 1 - (x.length : Nat)) = ((m - 1 - x.length : Nat) : Int) := by omega
    rw [e1]
    show L2.atI (Ls.map stD) _ = _
    rw [atI_k (by rw [List.length_map]; omega)]
    simp only [List.getElem_map]
    rw [← er, List.getD_eq_getElem?_getD, List.getElem?_eq_getElem (by omega)]
    rfl
  have s0 : sNew2 8 9 [c0, c1, .fro (.lst (Ls.map stD)), c3, .fro (.int (m : Nat)), c5, .fro (.int (x.length : Nat)), c7, c8, c9, c10, c11, c12, c13, c14, c15, .no] = .ok .nx [c0, c1, .fro (.lst (Ls.map stD)), c3, .fro (.int (m : Nat)), c5, .fro (.int (x.length : Nat)), c7, .own (.lst []), .own (.lst []), c10, c11, c12, c13, c14, c15, .no] := by
    cases c8 <;> cases c9 <;> first | exact absurd rfl (k8 _) | exact absurd rfl (k9 _) | simp
  have s1 : l0_found_in [c0, c1, .fro (.lst (Ls.map stD)), c3, .fro (.int (m : Nat)), c5, .fro (.int (x.length : Nat)), c7, .own (.lst []), .own (.lst []), c10, c11, c12, c13, c14, c15, .no] = .ok .nx [c0, c1, .fro (.lst (Ls.map stD)), c3, .fro (.int (m : Nat)), d5, .fro (.int (x.length : Nat)), c7, .own (.lst ((lowsOf rows x.length x).map tD)), .own (.lst ((highsOf rows x.length x).map tD)), d10, d11, d12, d13, c14, c15, .no] := by
    unfold l0_found_in sFor
    have : iAny (sOps gIdx (b2 (sLoc 2) (sVal (sOps gSub (b2 (sVal (sOps gSub (b2 (sLoc 4) (sVal (sCst (.int 1)))))) (sLoc 6)))))) [c0, c1, .fro (.lst (Ls.map stD)), c3, .fro (.int (m : Nat)), c5, .fro (.int (x.length : Nat)), c7, .own (.lst []), .own (.lst []), c10, c11, c12, c13, c14, c15, .no] = .ok (rows.map rowD) [c0, c1, .fro (.lst (Ls.map stD)), c3, .fro (.int (m : Nat)), c5, .fro (.int (x.length : Nat)), c7, .own (.lst []), .own (.lst []), c10, c11, c12, c13, c14, c15, .no] := by
      simp [gSub, gI, eidx, itemsD, stD]
    rw [this, R.bind_ok]
    exact e
  have g2 : ∀ {a b : D} {e0 e1 e2 e3 e4 e5 e6 e7 e8 e9 e10 e11 e12 e13 : Cell}, gTup' 2 (gC (gSet 14) (gC (gSet 15) gN)) (.tup [a, b]) [e0, e1, e2, e3, e4, e5, e6, e7, e8, e9, e10, e11, e12, e13, c14, c15, .no] = .ok () [e0, e1, e2, e3, e4, e5, e6, e7, e8, e9, e10, e11, e12, e13, .fro a, .fro b, .no] := fun {a b e0 e1 e2 e3 e4 e5 e6 e7 e8 e9 e10 e11 e12 e13} => by
    show gC (gSet 14) (gC (gSet 15) gN) [a, b] _ = _
    rw [ev_gC, gSet_ne rfl k14, R.bind_ok, ev_gC, gSet_ne rfl k15, R.bind_ok, ev_gN0]
    rfl
  generalize hq : nearR (lowsOf rows x.length x) (highsOf rows x.length x) = q at *
  obtain ⟨a, b⟩ := q
  simp only at nS nB
  have s2 : ∀ {c2 c4 c6 c10 c11 c12 c13 : Cell}, sAsg (gTup' 2 (gC (gSet 14) (gC (gSet 15) gN))) (sCallP 2 (m_nearest) (sCons (sVar 8) (sCons (sVar 9) sNil))) [c0, c1, c2, c3, c4, d5, c6, c7, .own (.lst ((lowsOf rows x.length x).map tD)), .own (.lst ((highsOf rows x.length x).map tD)), c10, c11, c12, c13, c14, c15, .no] =
      .ok .nx [c0, c1, c2, c3, c4, d5, c6, c7, .fro (.lst ((lowsOf rows x.length x).map tD)), .fro (.lst ((highsOf rows x.length x).map tD)), c10, c11, c12, c13, .fro (.int a), .fro (.int b), .no] := fun {c2 c4 c6 c10 c11 c12 c13} => by
    rw [ev_asg, call2 (d := .lst ((lowsOf rows x.length x).map tD)) (d2 := .lst ((highsOf rows x.length x).map tD)) (ρ' := [c0, c1, c2, c3, c4, d5, c6, c7, .fro (.lst ((lowsOf rows x.length x).map tD)), .own (.lst ((highsOf rows x.length x).map tD)), c10, c11, c12, c13, c14, c15, .no]) (ρ2 := [c0, c1, c2, c3, c4, d5, c6, c7, .fro (.lst ((lowsOf rows x.length x).map tD)), .fro (.lst ((highsOf rows x.length x).map tD)), c10, c11, c12, c13, c14, c15, .no]) (by simp) (by simp) near, R.bind_ok]
    unfold pairI
    rw [g2, R.bind_ok]
  have s3 : ∀ {c2 c4 c6 c8 c9 c10 c11 c12 c13 : Cell}, sAsg (gSet 7) (sOps gMax2 (bCons (sVal (sCst (.int 1))) (bCons (sVal (sCallP 1 (m_divisor_of) (sCons (sLst (sCons (sVar 14) (sCons (sVar 15) sNil))) sNil))) bNil))) [c0, c1, c2, c3, c4, d5, c6, c7, c8, c9, c10, c11, c12, c13, .fro (.int a), .fro (.int b), .no] =
      .ok .nx [c0, c1, c2, c3, c4, d5, c6, .fro (.int (big1 [a, b])), c8, c9, c10, c11, c12, c13, .fro (.int a), .fro (.int b), .no] := fun {c2 c4 c6 c8 c9 c10 c11 c12 c13} => by
    have c := call1 (g := m_divisor_of) (s := sLst (sCons (sVar 14) (sCons (sVar 15) sNil))) (ρ := [c0, c1, c2, c3, c4, d5, c6, c7, c8, c9, c10, c11, c12, c13, .fro (.int a), .fro (.int b), .no]) (ρ' := [c0, c1, c2, c3, c4, d5, c6, c7, c8, c9, c10, c11, c12, c13, .fro (.int a), .fro (.int b), .no]) (d := .lst ([a, b].map .int)) (by simp [line2]) (div_ok (.inr rfl))
    have b' : sOps gMax2 (bCons (sVal (sCst (.int 1))) (bCons (sVal (sCallP 1 (m_divisor_of) (sCons (sLst (sCons (sVar 14) (sCons (sVar 15) sNil))) sNil))) bNil)) [c0, c1, c2, c3, c4, d5, c6, c7, c8, c9, c10, c11, c12, c13, .fro (.int a), .fro (.int b), .no] = .ok (.int (big1 [a, b])) [c0, c1, c2, c3, c4, d5, c6, c7, c8, c9, c10, c11, c12, c13, .fro (.int a), .fro (.int b), .no] := by
      simp [-ev_callP, c, gMax2, big1]
    rw [ev_asg, b', R.bind_ok, gSet_ne rfl k7]
    rfl
  have s4 : ∀ {c2 c4 c6 c8 c9 c10 c11 c12 c13 : Cell}, sAsg (gTup' 2 (gC (gSet 14) (gC (gSet 15) gN))) (sTup (sCons (sOps gDiv (b2 (sLoc 14) (sLoc 7))) (sCons (sOps gDiv (b2 (sLoc 15) (sLoc 7))) sNil))) [c0, c1, c2, c3, c4, d5, c6, .fro (.int (big1 [a, b])), c8, c9, c10, c11, c12, c13, .fro (.int a), .fro (.int b), .no] =
      .ok .nx [c0, c1, c2, c3, c4, d5, c6, .fro (.int (big1 [a, b])), c8, c9, c10, c11, c12, c13, .fro (.int (a / big1 [a, b])), .fro (.int (b / big1 [a, b])), .no] := fun {c2 c4 c6 c8 c9 c10 c11 c12 c13} => by
    have w1 : gDiv [.int a, .int (big1 [a, b])] = some (.int (a / big1 [a, b])) := if_pos (cdiv_ok nS)
    have w2 : gDiv [.int b, .int (big1 [a, b])] = some (.int (b / big1 [a, b])) := if_pos (cdiv_ok nS)
    simp [w1, w2, line2]
  have s5 : ∀ {c2 c4 c6 c7 c8 c9 c10 c11 c12 c13 : Cell} {T : Int}, sAsg (gSet 5) (sOps gAdd (b2 (sVal c0_found_in) (sVal (sLst (sCons (sVar 14) sNil))))) [c0, c1, c2, c3, c4, d5, c6, c7, c8, c9, c10, c11, c12, c13, .fro (.int T), .fro (.int (b / big1 [a, b])), .no] =
      .ok .nx [c0, c1, c2, c3, c4, .fro (.lst ((x.map (b / big1 [a, b] * ·) ++ [T]).map .int)), c6, c7, c8, c9, c10, c11, c12, c13, .fro (.int T), .fro (.int (b / big1 [a, b])), .no] := fun {c2 c4 c6 c7 c8 c9 c10 c11 c12 c13 T} => by
    have hc : compGo [16] (gSet 16) tT1 (sOps gMul (b2 (sLoc 15) (sLoc 16))) (x.map D.int) [c0, c1, c2, c3, c4, .fro (.lst (x.map .int)), c6, c7, c8, c9, c10, c11, c12, c13, .fro (.int T), .fro (.int (b / big1 [a, b])), .no] = .ok (x.map fun y => .int (b / big1 [a, b] * y)) [c0, c1, c2, c3, c4, .fro (.lst (x.map .int)), c6, c7, c8, c9, c10, c11, c12, c13, .fro (.int T), .fro (.int (b / big1 [a, b])), .no] := by
      refine comp_ints fun y hy => ?_
      have m1 := mul_g nB (hN.small y hy) (by omega)
      exact ⟨[c0, c1, c2, c3, c4, .fro (.lst (x.map .int)), c6, c7, c8, c9, c10, c11, c12, c13, .fro (.int T), .fro (.int (b / big1 [a, b])), .fro (.int y)], [c0, c1, c2, c3, c4, .fro (.lst (x.map .int)), c6, c7, c8, c9, c10, c11, c12, c13, .fro (.int T), .fro (.int (b / big1 [a, b])), .fro (.int y)], by simp, by simp [m1], by simp [plainAt], by simp [wipeE]⟩
    have lx : x.length ≤ sizeLine := line_pos (by omega)
    have c : c0_found_in [c0, c1, c2, c3, c4, d5, c6, c7, c8, c9, c10, c11, c12, c13, .fro (.int T), .fro (.int (b / big1 [a, b])), .no] = .ok (.lst (x.map fun y => .int (b / big1 [a, b] * y))) [c0, c1, c2, c3, c4, .fro (.lst (x.map .int)), c6, c7, c8, c9, c10, c11, c12, c13, .fro (.int T), .fro (.int (b / big1 [a, b])), .no] :=
      scomp_ok (ds := x.map D.int) (by rcases i5 with rfl | rfl <;> simp [itemsD]) (by simp [plainAt]) (by simpa using lx) (by simp [wipeE]) hc (by simp [backE])
    have lx2 : x.length + 1 ≤ sizeLine := line_pos (by omega)
    simp [c, line1', gAdd, lx2, Function.comp_def]
  refine ⟨.fro (.int (big1 [a, b])), .fro (.lst ((lowsOf rows x.length x).map tD)), .fro (.lst ((highsOf rows x.length x).map tD)), d10, d11, d12, d13, .fro (.int (a / big1 [a, b])), .fro (.int (b / big1 [a, b])), by simp, by simp, by simp, i10, i11, i12, i13, by simp, by simp, ?_⟩
  unfold t1_found_in
  rw [ev_seq, s0, R.bind_ok]
  show sSeq _ _ _ = _
  rw [ev_seq, s1, R.bind_ok]
  show sSeq _ _ _ = _
  rw [ev_seq, s2, R.bind_ok]
  show sSeq _ _ _ = _
  rw [ev_seq, s3, R.bind_ok]
  show sSeq _ _ _ = _
  rw [ev_seq, s4, R.bind_ok]
  show sAsg _ _ _ = _
  rw [s5]
  unfold nextX
  rw [hq]
end Lw

/-! found_in as a whole: numbers that hold, or weights that bar. -/
namespace Lw
open Dt PySem
/-- the rows of a system hold at x -/
def Holds (sys : Sy) (x : List Int) : Prop := ∀ q ∈ sys, Hd q.1 q.2 x
/-- w bars the system -/
structure Bars (sys : Sy) (m : Nat) (w : List Int) : Prop where
  len : w.length = sys.length
  nn : ∀ y ∈ w, 0 ≤ y
  z : ∀ p, p < m → dot w (colD sys p) = 0
  st : ∃ q ∈ w.zip sys, 0 < q.1 ∧ q.2.1 = true
theorem firsts_holds {sys : Sy} {n : Nat} {wd : Bool} {x : List Int} : (∀ r ∈ firsts n wd 0 sys, Hd r.1 r.2.1 x) ↔ Holds sys x := by
  refine ⟨fun h q hq => ?_, fun h r hr => ?_⟩
  · obtain ⟨j, hj⟩ := List.mem_iff_getElem?.mp hq
    exact h _ (firsts_of (n := n) (wd := wd) (i := 0) hj)
  · obtain ⟨j, q, hq, rfl⟩ := firsts_mem hr
    exact h q (List.mem_of_getElem? hq)
theorem st_chain {o m n : Nat} {rows : List Rw} {L : List (List Rw)} (h : StOk o m n rows L) (hl : L.length = m + 1) : Chain m rows fun k => L.getD k [] := ⟨h.zero, fun k hk => h.step k (by omega)⟩
def upn (p : Nat) : Nat → List D
  | 0 => []
  | r + 1 => .int (p : Nat) :: upn (p + 1) r
theorem upto_upn : ∀ (r p : Nat), upto (p : Nat) r = upn p r := by
  intro r
  induction r with
  | zero => intro p; rfl
  | succ r ih =>
    intro p
    unfold upn
    rw [← ih (p + 1)]
    unfold upto
    rw [List.range_succ_eq_map, List.map_cons, List.map_map]
    congr 1
    refine List.map_congr_left fun i _ => ?_
    show D.int ((p : Int) + ((i + 1 : Nat) : Int)) = D.int (((p + 1 : Nat) : Int) + (i : Nat))
    congr 1
    omega
theorem row500 {k m n : Nat} {r : Rw} (hk : k ≤ 4) (h : RowOk (bitB k) m n r) : RowOk 500 m n r := by
  have := pow_mono (bit_le hk)
  exact ⟨⟨fun x hx => Nat.le_trans (h.b.1 x hx) this, fun x hx => Nat.le_trans (h.b.2 x hx) this⟩, h.f, h.w⟩
theorem fi_loop {c0 c1 c3 : Cell} {Ls : List (List Rw)} {first : List Rw} {o m n : Nat} (hm : o + m ≤ 4) (h : StOk o m n first Ls) (hs : Ls.length = m + 1) :
    ∀ {k p : Nat} {x : List Int} {c5 c6 c7 c8 c9 c10 c11 c12 c13 c14 c15 : Cell}, p + k = m → NumOk p x → (∀ r ∈ Ls.getD (m - p) [], Hd r.1 r.2.1 x) → (c5 = .own (.lst (x.map .int)) ∨ c5 = .fro (.lst (x.map .int))) →
    (∀ d, c6 ≠ .io d) → (∀ d, c7 ≠ .io d) → (∀ d, c8 ≠ .io d) → (∀ d, c9 ≠ .io d) → (∀ d, c10 ≠ .io d) → (∀ d, c11 ≠ .io d) → (∀ d, c12 ≠ .io d) → (∀ d, c13 ≠ .io d) → (∀ d, c14 ≠ .io d) → (∀ d, c15 ≠ .io d) →
    ∃ x' d5 d6 d7 d8 d9 d10 d11 d12 d13 d14 d15, NumOk m x' ∧ (∀ r ∈ Ls.getD 0 [], Hd r.1 r.2.1 x') ∧ (d5 = .own (.lst (x'.map .int)) ∨ d5 = .fro (.lst (x'.map .int))) ∧
      forGo (gSet 6) t1_found_in (upn p k) [c0, c1, .fro (.lst (Ls.map stD)), c3, .fro (.int (m : Nat)), c5, c6, c7, c8, c9, c10, c11, c12, c13, c14, c15, .no] =
        .ok .nx [c0, c1, .fro (.lst (Ls.map stD)), c3, .fro (.int (m : Nat)), d5, d6, d7, d8, d9, d10, d11, d12, d13, d14, d15, .no]
  | 0, p, x, c5, c6, c7, c8, c9, c10, c11, c12, c13, c14, c15, hp, hN, hx, h5, _, _, _, _, _, _, _, _, _, _ => by
    have : p = m := by omega
    subst this
    rw [Nat.sub_self] at hx
    exact ⟨x, c5, c6, c7, c8, c9, c10, c11, c12, c13, c14, c15, hN, hx, h5, rfl⟩
  | k + 1, p, x, c5, c6, c7, c8, c9, c10, c11, c12, c13, c14, c15, hp, hN, hx, h5, k6, k7, k8, k9, k10, k11, k12, k13, k14, k15 => by
    have rk := h.row (m - 1 - p) (by omega)
    have sk := h.step (m - 1 - p) (by omega)
    have e1 : m - 1 - p + 1 = m - p := by omega
    have e2 : m - 1 - (m - 1 - p) = p := by omega
    rw [e1, e2] at sk
    have hr : ∀ r ∈ Ls.getD (m - 1 - p) [], RowOk 500 m n r := fun r hr => row500 (by omega) (rk.2 r hr)
    have hc := sk.complete hx
    have hc' : ∀ r ∈ withoutR (Ls.getD (m - 1 - p) []) x.length, Hd r.1 r.2.1 x := by rw [hN.len]; exact hc
    obtain ⟨nN, nH, _, _⟩ := next_x (p := p) (by omega) hr hN hc'
    obtain ⟨d7, d8, d9, d10, d11, d12, d13, d14, d15, i7, i8, i9, i10, i11, i12, i13, i14, i15, e⟩ := fi_turn (c0 := c0) (c1 := c1) (c3 := c3) (Ls := Ls) (m := m) (p := p) (n := n) (by omega) (by omega) hs rfl hr (Nat.le_trans rk.1 (sz_line (by omega))) hN hc' h5 k7 k8 k9 k10 k11 k12 k13 k14 k15
    obtain ⟨x', e5, e6, e7, e8, e9, e10, e11, e12, e13, e14, e15, q1, q2, q3, q4⟩ := fi_loop (c0 := c0) (c1 := c1) (c3 := c3) hm h hs (k := k) (p := p + 1) (x := nextX (Ls.getD (m - 1 - p) []) x) (c5 := .fro (.lst ((nextX (Ls.getD (m - 1 - p) []) x).map .int))) (c6 := .fro (.int (p : Nat))) (by omega) nN (by rw [show m - (p + 1) = m - 1 - p by omega]; exact nH) (.inr rfl) (by simp) i7 i8 i9 i10 i11 i12 i13 i14 i15
    refine ⟨x', e5, e6, e7, e8, e9, e10, e11, e12, e13, e14, e15, q1, q2, q3, ?_⟩
    unfold upn forGo
    rw [gSet_ne rfl k6, R.bind_ok]
    show (t1_found_in [c0, c1, .fro (.lst (Ls.map stD)), c3, .fro (.int (m : Nat)), c5, .fro (.int (p : Nat)), c7, c8, c9, c10, c11, c12, c13, c14, c15, .no]).bind _ = _
    rw [e, R.bind_ok]
    exact q4
/-- the body, its parts unknown -/
theorem fi_gen1 {A : SS} {g h : List D → FR} {d steps last w : D} {wd : Bool} (e1 : g [d, .bl wd] = .ok steps []) (e2 : gIdx [steps, .int (-1)] = some last) (e3 : h [last] = .ok w []) (e4 : gIsNot [w, .non] = some (.bl true)) :
    runP 17 2 (sSeq (sAsg (gSet 2) (sCallP 2 g (sCons (sVar 0) (sCons (sVar 1) sNil))))
      (sSeq (sAsg (gSet 3) (sCallP 1 h (sCons (sOps gIdx (b2 (sLoc 2) (sVal (sOps gNeg (b1 (sVal (sCst (.int 1)))))))) sNil)))
      (sSeq (sIfS (sTst (sOps gIsNot (b2 (sLoc 3) (sVal (sCst .non))))) (sRet (sTup (sCons (sCst .non) (sCons (sVar 3) sNil)))) sNx) A))) [d, .bl wd] = .ok (.tup [.non, w]) [] := by
  unfold runP
  simp [e1, e2, e3, e4, gNeg, line2]
theorem fi_gen2 {A : SS} {g h : List D → FR} {d steps last q f : D} {wd : Bool} {m : Nat} {d5 d6 d7 d8 d9 d10 d11 d12 d13 d14 d15 : Cell} {ys : List D} (e1 : g [d, .bl wd] = .ok steps []) (e2 : gIdx [steps, .int (-1)] = some last) (e3 : h [last] = .ok .non [])
    (i1 : gIdx [d, .int 0] = some q) (i2 : gIdx [q, .int 1] = some f) (i3 : gLen [f] = some (.int (m : Nat))) (h5 : d5 = .own (.lst ys) ∨ d5 = .fro (.lst ys))
    (ea : A [.fro d, .fro (.bl wd), .fro steps, .fro .non, .fro (.int (m : Nat)), .own (.lst []), .no, .no, .no, .no, .no, .no, .no, .no, .no, .no, .no] = .ok .nx [.fro d, .fro (.bl wd), .fro steps, .fro .non, .fro (.int (m : Nat)), d5, d6, d7, d8, d9, d10, d11, d12, d13, d14, d15, .no]) :
    runP 17 2 (sSeq (sAsg (gSet 2) (sCallP 2 g (sCons (sVar 0) (sCons (sVar 1) sNil))))
      (sSeq (sAsg (gSet 3) (sCallP 1 h (sCons (sOps gIdx (b2 (sLoc 2) (sVal (sOps gNeg (b1 (sVal (sCst (.int 1)))))))) sNil)))
      (sSeq (sIfS (sTst (sOps gIsNot (b2 (sLoc 3) (sVal (sCst .non))))) (sRet (sTup (sCons (sCst .non) (sCons (sVar 3) sNil)))) sNx)
      (sSeq (sAsg (gSet 4) (sOps gLen (bCons (sVal (sOps gIdx (b2 (sVal (sOps gIdx (b2 (sLoc 0) (sVal (sCst (.int 0)))))) (sVal (sCst (.int 1)))))) bNil)))
      (sSeq (sAsg (gOwn 5) (sLst sNil)) (sSeq A (sRet (sTup (sCons (sOps gTuple (bCons (sLoc 5) bNil)) (sCons (sCst .non) sNil)))))))))) [d, .bl wd] = .ok (.tup [.tup ys, .non]) [] := by
  have n : gIsNot [.non, .non] = some (.bl false) := rfl
  unfold runP
  rcases h5 with rfl | rfl <;> simp [e1, e2, e3, n, gNeg, line2, i1, i2, i3, ea, gTuple]
theorem idx_last {α : Type} (f : α → D) {L : List α} {z : α} (h : L.getLast? = some z) : gIdx [.lst (L.map f), .int (-1)] = some (f z) := by
  obtain ⟨L', rfl⟩ : ∃ L', L = L' ++ [z] := ⟨L.dropLast, by
    cases L with
    | nil => cases h
    | cons a L => rw [List.getLast?_eq_some_getLast (by simp)] at h; cases h; exact (List.dropLast_concat_getLast (by simp)).symm⟩
  rw [List.map_append]
  exact atI_last _ _
theorem found_ok {o m : Nat} {sys : Sy} {wd : Bool} (h : SysV o m sys) : ∃ z, m_found_in [sysD sys, .bl wd] = .ok z [] ∧
    ((∃ x, z = .tup [intsD x, .non] ∧ NumOk m x ∧ Holds sys x) ∨ ∃ w, z = .tup [.non, intsD w] ∧ (∀ x, ¬ Holds sys x) ∧ (wd = true → Bars sys m w ∧ ∀ y ∈ w, y.natAbs ≤ 2 ^ 500)) := by
  obtain ⟨m1, m4⟩ := h.m1
  obtain ⟨L, e1, st, hL⟩ := stages_ok (wd := wd) h
  have hf : ∀ r ∈ firsts sys.length wd 0 sys, r.2.1.length = m := fun r hr => by
    obtain ⟨j, q, hq, rfl⟩ := firsts_mem hr
    exact h.len q (List.mem_of_getElem? hq)
  have ch := st_chain st hL
  obtain ⟨rows, er⟩ : ∃ rows, L.getD m [] = rows := ⟨_, rfl⟩
  have el : L.getLast? = some rows := by
    rw [List.getLast?_eq_getElem?, hL, ← er, List.getD_eq_getElem?_getD, Nat.add_sub_cancel, List.getElem?_eq_getElem (by omega)]
    rfl
  have e2 := idx_last stD el
  have e3 := barred_ok rows
  by_cases z : barR rows = .non
  · rw [z] at e3
    obtain ⟨q0, sys', rfl⟩ : ∃ q0 sys', sys = q0 :: sys' := by
      cases sys with
      | nil => have := h.few.1; simp at this
      | cons a b => exact ⟨a, b, rfl⟩
    have l0 : q0.2.length = m := h.len q0 List.mem_cons_self
    have i3 : gLen [intsD q0.2] = some (.int (m : Nat)) := by simp [gLen, intsD, l0]
    have i1 : gIdx [sysD (q0 :: sys'), .int 0] = some (pairD q0) := by
      show L2.atI ((q0 :: sys').map pairD) 0 = _
      rw [List.map_cons]
      exact (L2.atI_nat (xs := pairD q0 :: sys'.map pairD) (j := 0) rfl : L2.atI (pairD q0 :: sys'.map pairD) ((0 : Nat) : Int) = _)
    have i2 : gIdx [pairD q0, .int 1] = some (intsD q0.2) := rfl
    have hx0 : ∀ r ∈ L.getD (m - 0) [], Hd r.1 r.2.1 [] := fun r hr => by
      rw [Nat.sub_zero, er] at hr
      have := bar_non.mp z r hr
      unfold Hd
      rw [dot_nil, this]
      exact ⟨Int.le_refl 0, fun w => nomatch w⟩
    obtain ⟨x', d5, d6, d7, d8, d9, d10, d11, d12, d13, d14, d15, q1, q2, q3, q4⟩ := fi_loop (c0 := .fro (sysD (q0 :: sys'))) (c1 := .fro (.bl wd)) (c3 := .fro .non) m4 st hL (k := m) (p := 0) (x := []) (c5 := .own (.lst [])) (c6 := .no) (c7 := .no) (c8 := .no) (c9 := .no) (c10 := .no) (c11 := .no) (c12 := .no) (c13 := .no) (c14 := .no) (c15 := .no) (by omega) ⟨rfl, fun y hy => nomatch hy⟩ hx0 (.inl rfl) (by simp) (by simp) (by simp) (by simp) (by simp) (by simp) (by simp) (by simp) (by simp) (by simp)
    have ea : l1_found_in [.fro (sysD (q0 :: sys')), .fro (.bl wd), .fro (.lst (L.map stD)), .fro .non, .fro (.int (m : Nat)), .own (.lst []), .no, .no, .no, .no, .no, .no, .no, .no, .no, .no, .no] = .ok .nx [.fro (sysD (q0 :: sys')), .fro (.bl wd), .fro (.lst (L.map stD)), .fro .non, .fro (.int (m : Nat)), d5, d6, d7, d8, d9, d10, d11, d12, d13, d14, d15, .no] := by
      unfold l1_found_in sFor
      rw [rng1_it (n := m) (ρ' := [.fro (sysD (q0 :: sys')), .fro (.bl wd), .fro (.lst (L.map stD)), .fro .non, .fro (.int (m : Nat)), .own (.lst []), .no, .no, .no, .no, .no, .no, .no, .no, .no, .no, .no]) (by simp) (by omega), R.bind_ok, show (0 : Int) = ((0 : Nat) : Int) from rfl, upto_upn]
      exact q4
    exact ⟨_, fi_gen2 e1 e2 e3 i1 i2 i3 q3 ea, .inl ⟨x', rfl, q1, firsts_holds.mp (ch.zero.complete q2)⟩⟩
  · obtain ⟨r, hr, hs, ew⟩ := bar_some z
    rw [ew] at e3
    rw [← er] at hr
    refine ⟨_, fi_gen1 e1 e2 e3 rfl, .inr ⟨r.2.2, rfl, fun x hx => ch.barred hf hr hs x (firsts_holds.mpr hx), fun hw => ?_⟩⟩
    have wo := ch.wok hf (sys := sys) (fun r0 h0 => by
      obtain ⟨j, q, hq, rfl⟩ := firsts_mem h0
      subst hw
      rw [Nat.zero_add]
      exact unit_wok hq) m (Nat.le_refl m) r hr
    have gd := ch.good hf m (Nat.le_refl m) r hr
    have rk := (st.row m (by omega)).2 r hr
    refine ⟨?_, (row500 (by omega) rk).b.2⟩
    exact ⟨wo.len, wo.nn, fun p hp => by rw [← wo.eq p hp]; exact gd.zero p (by omega), wo.st hs⟩
end Lw

/-! near: a number near 0. -/
namespace Lw
open Dt PySem
theorem near_ok {t : D} {w : Int} (h : TapeOk t) (w0 : 0 ≤ w) (w1 : w ≤ 100000000000000000000) : ∃ v t', m_L_near [t, .int w] = .ok (.int v) [t'] ∧ TapeOk t' ∧ -w ≤ v ∧ v ≤ w := by
  have c := mulA_l 2 w (by decide) (by decide)
  obtain ⟨v, t', e, h', v0, v1⟩ := draw_lit (2 * w + 1) h (by omega) (by omega)
  refine ⟨v - w, t', ?_, h', by omega, by omega⟩
  show runI 2 2 b_L_near [t, .int w] = _
  unfold runI b_L_near
  simp [gMul, c, gAdd, e, gSub, gI, lastIo]
end Lw

/-! systems drawn; the check of a system; what holds. -/
namespace Lw
open Dt PySem
theorem ints_of {P : Int → Prop} : ∀ {zs : List D}, (∀ z ∈ zs, ∃ i, z = .int i ∧ P i) → ∃ f : List Int, zs = f.map .int ∧ ∀ i ∈ f, P i
  | [], _ => ⟨[], rfl, fun _ h => nomatch h⟩
  | z :: zs, h => by
    obtain ⟨i, rfl, p⟩ := h z List.mem_cons_self
    obtain ⟨f, rfl, q⟩ := ints_of (P := P) (zs := zs) fun y hy => h y (List.mem_cons_of_mem _ hy)
    exact ⟨i :: f, rfl, fun j hj => by
      rcases List.mem_cons.mp hj with rfl | hj
      · exact p
      · exact q j hj⟩
theorem scomp_io {vs : List Nat} {it : SA} {g : SG} {t : ST} {s : SE} {ρ0 ρ ρw ρ' ρ'' : Dt.Env} {ds zs : List D} (hi : it ρ0 = .ok ds ρ) (hp : plainAt ρ vs = true) (hl : ds.length ≤ sizeLine) (hw : wipeE ρ vs = ρw) (e : compGo vs g t s ds ρw = .ok zs ρ') (hb : backE ρ ρ' vs = ρ'') : sComp vs it g t s ρ0 = .ok (.lst zs) ρ'' := by
  unfold sComp
  simp [hi, hp, hl, hw, e, hb]
/-- a drawn system -/
structure Drawn (m : Nat) (w : Int) (sys : Sy) : Prop where
  len : ∀ q ∈ sys, q.2.length = m
  small : ∀ q ∈ sys, ∀ x ∈ q.2, -w ≤ x ∧ x ≤ w
theorem comp_near {t : D} {w : Int} {m : Nat} (h : TapeOk t) (w0 : 0 ≤ w) (w1 : w ≤ 100000000000000000000) (hm : m ≤ 1000) (c2 c4 c5 c6 : Cell) : ∃ (f : List Int) (t' : D), c0_L_system [.io t, .fro (.int (m : Nat)), c2, .fro (.int w), c4, c5, c6, .no] = .ok (.lst (f.map .int)) [.io t', .fro (.int (m : Nat)), c2, .fro (.int w), c4, c5, c6, .no] ∧ TapeOk t' ∧ f.length = m ∧ ∀ x ∈ f, -w ≤ x ∧ x ≤ w := by
  have hc := comp_inv (I := fun ρ => ∃ t, TapeOk t ∧ ρ = [.io t, .fro (.int (m : Nat)), c2, .fro (.int w), c4, c5, c6, .no]) (P := fun d => ∃ i, d = .int i ∧ -w ≤ i ∧ i ≤ w) (vs := [7]) (g := gSet 7) (t := tT1)
    (s := sCallI 0 2 (m_L_near) (sCons (sVar 3) sNil)) (ds := upto 0 m) (ρ := [.io t, .fro (.int (m : Nat)), c2, .fro (.int w), c4, c5, c6, .no])
    (fun d hd ρ ⟨t, ht, hρ⟩ => by
      subst hρ
      obtain ⟨z, t2, e2, h2, b1, b2⟩ := near_ok ht w0 w1
      refine ⟨[.io t, .fro (.int (m : Nat)), c2, .fro (.int w), c4, c5, c6, .fro d], _, [.io t2, .fro (.int (m : Nat)), c2, .fro (.int w), c4, c5, c6, .fro d], .int z, by simp, rfl, ?_, by simp [plainAt], ⟨t2, h2, by simp [wipeE]⟩, ⟨z, rfl, b1, b2⟩⟩
      simp [e2]) ⟨t, h, rfl⟩
  obtain ⟨zs, ρ', e2, ⟨t2, h2, rfl⟩, hl, hz⟩ := hc
  obtain ⟨f, rfl, hf⟩ := ints_of hz
  have hl3 : f.length = m := by rw [List.length_map] at hl; rw [hl]; simp [upto]
  refine ⟨f, t2, ?_, h2, hl3, hf⟩
  exact scomp_io (ds := upto 0 m) (ρ := [.io t, .fro (.int (m : Nat)), c2, .fro (.int w), c4, c5, c6, .no]) (rng1_it (by simp) hm) (by simp [plainAt]) (line_pos (by simp [upto]; omega)) (by simp [wipeE]) e2 (by simp [backE])
theorem rows_made {w : Int} {m : Nat} (w0 : 0 ≤ w) (w1 : w ≤ 100000000000000000000) (hm : m ≤ 1000) {c2 : Cell} : ∀ (ds : List D) {t : D} {sys : Sy} {c5 c6 : Cell}, TapeOk t → Drawn m w sys → sys.length + ds.length ≤ 1000 → (∀ d, c5 ≠ .io d) → (∀ d, c6 ≠ .io d) →
    ∃ t' sys' c5' c6', forGo (gSet 5) t0_L_system ds [.io t, .fro (.int (m : Nat)), c2, .fro (.int w), .fro (sysD sys), c5, c6, .no] = .ok .nx [.io t', .fro (.int (m : Nat)), c2, .fro (.int w), .fro (sysD sys'), c5', c6', .no] ∧ TapeOk t' ∧ Drawn m w sys' ∧ sys'.length = sys.length + ds.length
  | [], t, sys, c5, c6, h, hr, hl, _, _ => ⟨t, sys, c5, c6, rfl, h, hr, rfl⟩
  | d :: ds, t, sys, c5, c6, h, hr, hl, h5, h6 => by
    obtain ⟨f, t1, e1, h1, l1, o1⟩ := comp_near h w0 w1 hm c2 (.fro (sysD sys)) (.fro d) c6
    obtain ⟨a, t2, e2, h2, _, _⟩ := draw_lit 2 h1
    rw [List.length_cons] at hl
    have hs : sys.length + 1 ≤ sizeLine := line_pos (by omega)
    have e3 : t0_L_system [.io t, .fro (.int (m : Nat)), c2, .fro (.int w), .fro (sysD sys), .fro d, c6, .no] = .ok .nx [.io t2, .fro (.int (m : Nat)), c2, .fro (.int w), .fro (sysD (sys ++ [(a == 0, f)])), .fro d, .fro (intsD f), .no] := by
      unfold t0_L_system
      rw [ev_seq, ev_asg, ev_ops, ev_bcons, ev_val, e1, R.bind_ok]
      have et : gTuple [.lst (f.map .int)] = some (intsD f) := rfl
      have e5 : sysD (sys ++ [(a == 0, f)]) = .tup (sys.map pairD ++ [.tup [.bl (a == 0), intsD f]]) := by simp [sysD, pairD]
      rw [e5]
      cases c6 <;> first | exact absurd rfl (h6 _) | simp [et, e2, gEq, eqD_int, gAdd, hs, line2, line1', sysD]
    obtain ⟨t', sys', c5', c6', e4, h4, h7, h8⟩ := rows_made w0 w1 hm (c2 := c2) ds (sys := sys ++ [(a == 0, f)]) (c5 := .fro d) (c6 := .fro (intsD f)) h2 ⟨(fun q hq => by
      rcases List.mem_append.mp hq with hq | hq
      · exact hr.len q hq
      · rw [List.mem_singleton.mp hq]; exact l1), (fun q hq => by
      rcases List.mem_append.mp hq with hq | hq
      · exact hr.small q hq
      · rw [List.mem_singleton.mp hq]; exact o1)⟩ (by simp; omega) (by simp) (by simp)
    refine ⟨t', sys', c5', c6', ?_, h4, h7, by rw [h8]; simp; omega⟩
    unfold forGo
    rw [gSet_ne rfl h5, R.bind_ok]
    show (t0_L_system [.io t, .fro (.int (m : Nat)), c2, .fro (.int w), .fro (sysD sys), .fro d, c6, .no]).bind _ = _
    rw [e3, R.bind_ok]
    exact e4
theorem sd_gen {A : SS} {t t' m w l z : D} {c5 c6 : Cell} (e : A [.io t, .fro m, .fro l, .fro w, .fro (.tup []), .no, .no, .no] = .ok .nx [.io t', .fro m, .fro l, .fro w, .fro z, c5, c6, .no]) :
    runI 8 4 (sSeq (sAsg (gSet 4) (sTup sNil)) (sSeq A (sRet (sVar 4)))) [t, m, l, w] = .ok z [t'] := by
  have hz : 0 ≤ sizeLine := Nat.zero_le _
  unfold runI
  simp [e, lastIo]
theorem system_ok {t : D} {w : Int} {m lim : Nat} (h : TapeOk t) (w0 : 0 ≤ w) (w1 : w ≤ 100000000000000000000) (hm : m ≤ 1000) (l0 : 0 < lim) (hl : lim ≤ 100) : ∃ sys t', m_L_system [t, .int (m : Nat), .int (lim : Nat), .int w] = .ok (sysD sys) [t'] ∧ TapeOk t' ∧ Drawn m w sys ∧ 1 ≤ sys.length ∧ sys.length ≤ lim := by
  obtain ⟨a, t1, e1, h1, a0, a6⟩ := draw_lit (lim : Nat) h (by omega) (by omega)
  obtain ⟨k, rfl⟩ : ∃ k : Nat, a = k := ⟨a.toNat, by omega⟩
  obtain ⟨t', sys, c5, c6, e2, h2, hr, hn⟩ := rows_made w0 w1 hm (c2 := .fro (.int (lim : Nat))) (upto 0 (1 + k)) (sys := []) (c5 := .no) (c6 := .no) h1 ⟨(fun q hq => nomatch hq), (fun q hq => nomatch hq)⟩ (by simp [upto]; omega) (by simp) (by simp)
  refine ⟨sys, t', ?_, h2, hr, by rw [hn]; simp [upto], by rw [hn]; simp [upto]; omega⟩
  have ea : l0_L_system [.io t, .fro (.int (m : Nat)), .fro (.int (lim : Nat)), .fro (.int w), .fro (.tup []), .no, .no, .no] = .ok .nx [.io t', .fro (.int (m : Nat)), .fro (.int (lim : Nat)), .fro (.int w), .fro (sysD sys), c5, c6, .no] := by
    unfold l0_L_system sFor
    rw [rng1_it (n := 1 + k) (ρ' := [.io t1, .fro (.int (m : Nat)), .fro (.int (lim : Nat)), .fro (.int w), .fro (.tup []), .no, .no, .no]) (by simp [e1, gAdd]) (by omega), R.bind_ok]
    exact e2
  exact sd_gen ea
/-! ### the program's check -/
theorem isint_ok (i : Int) : m_is_integer [.int i] = .ok (.bl true) [] := by
  simp [m_is_integer, b_is_integer, runP, isT, isTn, tyN]
theorem blsT {α : Type} : ∀ xs : List α, blsOf (xs.map fun _ => D.bl true) = some (xs.map fun _ => true)
  | [] => rfl
  | x :: xs => by rw [List.map_cons, List.map_cons, blsOf_cons, blsT xs]; rfl
theorem allT {α : Type} (xs : List α) : gAll [.lst (xs.map fun _ => D.bl true)] = some (.bl true) := by
  show (blsOf _).map _ = _
  rw [blsT]
  simp
theorem row_gen {C : SE} {d f : D} {k : Int} {xs : List Bool} {q : Bool} {fs : List D} (hf : f = .tup fs) (hk : (fs.length : Int) = k) (hd : d = .tup [.bl q, f]) (ha : gAll [.lst (xs.map .bl)] = some (.bl true)) (ec : C [.fro d, .fro (.int k), .no] = .ok (.lst (xs.map .bl)) [.fro d, .fro (.int k), .no]) :
    runP 3 2 (sSeq (sIfS (tOrS (tNotS (sTru (sVal (sIsi ["tuple"] (sLoc 0))))) (tOrS (sTst (sOps gNe (b2 (sVal (sOps gLen (bCons (sLoc 0) bNil))) (sVal (sCst (.int 2)))))) (tNotS (sTru (sVal (sIsi ["bool"] (sVal (sOps gIdx (b2 (sLoc 0) (sVal (sCst (.int 0)))))))))))) (sRet (sCst (.bl false))) sNx)
      (sSeq (sIfS (tOrS (tNotS (sTru (sVal (sIsi ["tuple"] (sVal (sOps gIdx (b2 (sLoc 0) (sVal (sCst (.int 1)))))))))) (sTst (sOps gNe (b2 (sVal (sOps gLen (bCons (sVal (sOps gIdx (b2 (sLoc 0) (sVal (sCst (.int 1)))))) bNil))) (sLoc 1))))) (sRet (sCst (.bl false))) sNx)
      (sRet (sOps gAll (bCons (sVal C) bNil))))) [d, .int k] = .ok (.bl true) [] := by
  subst hf
  subst hk
  have i0 : gIdx [d, .int 0] = some (.bl q) := by rw [hd]; rfl
  have i1 : gIdx [d, .int 1] = some (.tup fs) := by rw [hd]; rfl
  have it : isTo ["tuple"] d = some (.bl true) := by rw [hd]; simp [isT, isTn, tyN]
  have il : gLen [d] = some (.int 2) := by rw [hd]; rfl
  have n2 : gNe [.int 2, .int 2] = some (.bl false) := rfl
  have nk : gNe [.int (fs.length : Nat), .int (fs.length : Nat)] = some (.bl false) := by simp [gNe, eqD_int]
  have lf : gLen [.tup fs] = some (.int (fs.length : Nat)) := rfl
  unfold runP
  simp [it, i0, i1, il, n2, nk, lf, isT, isTn, tyN, ec, ha]
theorem isrow_ok {q : Bool × List Int} {m : Nat} (h : q.2.length = m) (hm : m ≤ 1000) : m_is_row [pairD q, .int (m : Nat)] = .ok (.bl true) [] := by
  have e := comp_gen (enc := D.int) (F := fun _ : Int => D.bl true) (vs := [2]) (g := gSet 2) (s := sCallP 1 (m_is_integer) (sCons (sVar 2) sNil)) (ρ := [.fro (pairD q), .fro (.int (m : Nat)), .no]) (xs := q.2)
    (fun i _ => ⟨[.fro (pairD q), .fro (.int (m : Nat)), .fro (.int i)], [.fro (pairD q), .fro (.int (m : Nat)), .fro (.int i)], by simp, by simp [isint_ok], by simp [plainAt], by simp [wipeE]⟩)
  have i1 : gIdx [pairD q, .int 1] = some (intsD q.2) := rfl
  have ec : c0_is_row [.fro (pairD q), .fro (.int (m : Nat)), .no] = .ok (.lst (q.2.map fun _ => .bl true)) [.fro (pairD q), .fro (.int (m : Nat)), .no] :=
    scomp_ok (ds := q.2.map .int) (by simp [i1, itemsD, intsD]) (by simp [plainAt]) (line_pos (by simp; omega)) (by simp [wipeE]) e (by simp [backE])
  exact row_gen (C := c0_is_row) (f := intsD q.2) (fs := q.2.map .int) (xs := q.2.map fun _ => true) rfl (by simp [h]) rfl (by rw [List.map_map]; exact allT q.2) (by rw [List.map_map]; exact ec)
theorem sys_gen {C : SE} {d q f : D} {n m : Nat} {xs : List Bool} (it : isTo ["tuple"] d = some (.bl true)) (il : gLen [d] = some (.int (n : Nat))) (n1 : 1 ≤ n) (n2 : n ≤ 24) (i0 : gIdx [d, .int 0] = some q) (iq : isTo ["tuple"] q = some (.bl true)) (lq : gLen [q] = some (.int 2)) (i1 : gIdx [q, .int 1] = some f) (jf : isTo ["tuple"] f = some (.bl true))
    (lf : gLen [f] = some (.int (m : Nat))) (m1 : 1 ≤ m) (m2 : m ≤ 4) (ha : gAll [.lst (xs.map .bl)] = some (.bl true)) (ec : C [.fro d, .fro q, .fro (.int (m : Nat)), .no] = .ok (.lst (xs.map .bl)) [.fro d, .fro q, .fro (.int (m : Nat)), .no]) :
    runP 4 1 (sSeq (sIfS (tOrS (tNotS (sTru (sVal (sIsi ["tuple"] (sLoc 0))))) (tNotS (sTst (sChain gLe gLe (sVal (sCst (.int 1))) (sVal (sOps gLen (bCons (sLoc 0) bNil))) (sVal (sCst (.int 24))))))) (sRet (sCst (.bl false))) sNx)
      (sSeq (sAsg (gSet 1) (sOps gIdx (b2 (sLoc 0) (sVal (sCst (.int 0))))))
      (sSeq (sIfS (tOrS (tNotS (sTru (sVal (sIsi ["tuple"] (sLoc 1))))) (tOrS (sTst (sOps gNe (b2 (sVal (sOps gLen (bCons (sLoc 1) bNil))) (sVal (sCst (.int 2)))))) (tNotS (sTru (sVal (sIsi ["tuple"] (sVal (sOps gIdx (b2 (sLoc 1) (sVal (sCst (.int 1)))))))))))) (sRet (sCst (.bl false))) sNx)
      (sSeq (sAsg (gSet 2) (sOps gLen (bCons (sVal (sOps gIdx (b2 (sLoc 1) (sVal (sCst (.int 1)))))) bNil)))
      (sRet (sAnd (sChain gLe gLe (sVal (sCst (.int 1))) (sLoc 2) (sVal (sCst (.int 4)))) (sOps gAll (bCons (sVal C) bNil)))))))) [d] = .ok (.bl true) [] := by
  have q1 : (1 : Int) ≤ (n : Nat) := by omega
  have q2 : ((n : Nat) : Int) ≤ 24 := by omega
  have q3 : (1 : Int) ≤ (m : Nat) := by omega
  have q4 : ((m : Nat) : Int) ≤ 4 := by omega
  have e2 : gNe [.int 2, .int 2] = some (.bl false) := rfl
  unfold runP
  simp [it, il, i0, iq, lq, i1, jf, lf, gLe, lexI, q1, q2, q3, q4, e2, ec, ha]
theorem sys_idx {q0 : Bool × List Int} {sys : Sy} : gIdx [sysD (q0 :: sys), .int 0] = some (pairD q0) := by
  show L2.atI ((q0 :: sys).map pairD) 0 = _
  rw [List.map_cons]
  exact (L2.atI_nat (xs := pairD q0 :: sys.map pairD) (j := 0) rfl : L2.atI (pairD q0 :: sys.map pairD) ((0 : Nat) : Int) = _)
theorem issys_ok {o m : Nat} {sys : Sy} (h : SysV o m sys) : m_is_system [sysD sys] = .ok (.bl true) [] := by
  obtain ⟨m1, m4⟩ := h.m1
  obtain ⟨n1, _, n24⟩ := h.few
  obtain ⟨q0, sys', rfl⟩ : ∃ q0 sys', sys = q0 :: sys' := by
    cases sys with
    | nil => simp at n1
    | cons a b => exact ⟨a, b, rfl⟩
  have l0 : q0.2.length = m := h.len q0 List.mem_cons_self
  have e := comp_gen (enc := pairD) (F := fun _ => D.bl true) (vs := [3]) (g := gSet 3) (s := sCallP 2 (m_is_row) (sCons (sVar 3) (sCons (sVar 2) sNil))) (ρ := [.fro (sysD (q0 :: sys')), .fro (pairD q0), .fro (.int (m : Nat)), .no]) (xs := q0 :: sys')
    (fun q hq => ⟨[.fro (sysD (q0 :: sys')), .fro (pairD q0), .fro (.int (m : Nat)), .fro (pairD q)], [.fro (sysD (q0 :: sys')), .fro (pairD q0), .fro (.int (m : Nat)), .fro (pairD q)], by simp, by simp [isrow_ok (h.len q hq) (by omega)], by simp [plainAt], by simp [wipeE]⟩)
  have ec : c0_is_system [.fro (sysD (q0 :: sys')), .fro (pairD q0), .fro (.int (m : Nat)), .no] = .ok (.lst ((q0 :: sys').map fun _ => .bl true)) [.fro (sysD (q0 :: sys')), .fro (pairD q0), .fro (.int (m : Nat)), .no] :=
    scomp_ok (ds := (q0 :: sys').map pairD) (by simp [itemsD, sysD]) (by simp [plainAt]) (line_pos (by rw [List.length_map]; omega)) (by simp [wipeE]) e (by simp [backE])
  have mm : ((q0 :: sys').map fun _ => true).map D.bl = (q0 :: sys').map fun _ => D.bl true := List.map_map
  exact sys_gen (C := c0_is_system) (q := pairD q0) (f := intsD q0.2) (n := (q0 :: sys').length) (m := m) (xs := (q0 :: sys').map fun _ => true) (by simp [sysD, isT, isTn, tyN]) (len_sys _) n1 n24 sys_idx (by simp [pairD, isT, isTn, tyN]) rfl rfl (by simp [intsD, isT, isTn, tyN]) (by simp [gLen, intsD, l0]) m1 (by omega)
    (by rw [mm]; exact allT (q0 :: sys')) (by rw [mm]; exact ec)
theorem looked_ok {o m : Nat} {sys : Sy} (h : SysV o m sys) : m_looked [sysD sys] = .ok .non [] := by
  show runP 1 1 b_looked _ = _
  unfold runP b_looked
  simp [issys_ok h]
theorem drawn_v {m : Nat} {w : Int} {sys : Sy} (h : Drawn m w sys) (hw : w ≤ 1000000000) (h1 : 1 ≤ sys.length) (h2 : sys.length ≤ 8) (m1 : 1 ≤ m) (m4 : m ≤ 4) : SysV 0 m sys := ⟨⟨h1, h2, by omega⟩, h.len, ⟨m1, by omega⟩, fun q hq x hx => by
  have := h.small q hq x hx
  have : (2 : Nat) ^ 30 = 1073741824 := by decide
  omega⟩
end Lw

/-! Loops that check, lists that are compared with the empty one. -/
namespace Dt
open PySem
/-- a loop that leaves with False at the first item that fails -/
theorem for_check {I : Env → Prop} {g : SG} {s : SS} {p : D → Bool} : ∀ {ds : List D} {ρ : Env}, (∀ d ∈ ds, ∀ ρ, I ρ → ∃ ρ1 ρ2, g d ρ = .ok () ρ1 ∧ s ρ1 = .ok (if p d = true then .nx else .rt (.bl false)) ρ2 ∧ (p d = true → I ρ2)) → I ρ →
    ∃ ρ', forGo g s ds ρ = .ok (if ds.all p = true then .nx else .rt (.bl false)) ρ' ∧ (ds.all p = true → I ρ')
  | [], ρ, _, hi => ⟨ρ, rfl, fun _ => hi⟩
  | d :: ds, ρ, h, hi => by
    obtain ⟨ρ1, ρ2, e1, e2, i2⟩ := h d (List.mem_cons_self) ρ hi
    unfold forGo
    rw [e1, R.bind_ok, e2, R.bind_ok, List.all_cons]
    cases hp : p d with
    | false => exact ⟨ρ2, rfl, fun h => by cases h⟩
    | true => exact for_check (fun d hd => h d (List.mem_cons_of_mem _ hd)) (i2 hp)
theorem bls_map (f : D → Bool) : ∀ ds : List D, blsOf (ds.map fun d => .bl (f d)) = some (ds.map f)
  | [] => rfl
  | d :: ds => by
    rw [List.map_cons, blsOf_cons, bls_map f ds]
    rfl
theorem lst_ne {ds : List D} {m n : Nat} (h : ∀ d ∈ ds, Ok m n d) (hl : ds.length ≤ m) (hn : n ≤ 60) : eqD (.lst ds) (.lst []) = some ds.isEmpty := by
  rw [eqD_ok (m := m) (n := n + 1) (m' := m) (n' := n + 1) (ok_lst.mpr ⟨hl, h⟩) (ok_lst.mpr ⟨by simp, by simp⟩) (by omega) (by omega), eqv_lst_nil]
theorem filt_empty (p : D → Bool) (ps : List D) : (ps.filter fun d => !p d).isEmpty = ps.all p := by
  induction ps with
  | nil => rfl
  | cons d ds ih =>
    cases hd : p d with
    | true => rw [List.filter_cons_of_neg (by simp [hd]), ih, List.all_cons, hd, Bool.true_and]
    | false => rw [List.filter_cons_of_pos (by simp [hd]), List.all_cons, hd, Bool.false_and]; rfl
end Dt

/-! weights_for. -/
namespace Lw
open Dt PySem
theorem weights_ok {o m : Nat} {sys : Sy} (h : SysV o m sys) : ∃ z, m_weights_for [sysD sys] = .ok z [] ∧ ((z = .non ∧ ∃ x, Holds sys x) ∨ ∃ w, z = intsD w ∧ (∀ x, ¬ Holds sys x) ∧ Bars sys m w ∧ ∀ y ∈ w, y.natAbs ≤ 2 ^ 500) := by
  obtain ⟨z, e, r⟩ := found_ok (wd := true) h
  have lk := looked_ok h
  rcases r with ⟨x, rfl, hN, hx⟩ | ⟨w, rfl, hn, hb⟩
  · refine ⟨.non, ?_, .inl ⟨rfl, x, hx⟩⟩
    have i : gIdx [.tup [intsD x, .non], .int 1] = some .non := rfl
    show runP 1 1 b_weights_for _ = _
    unfold runP b_weights_for
    simp [lk, e, i]
  · refine ⟨intsD w, ?_, .inr ⟨w, rfl, hn, hb rfl⟩⟩
    have i : gIdx [.tup [.non, intsD w], .int 1] = some (intsD w) := rfl
    show runP 1 1 b_weights_for _ = _
    unfold runP b_weights_for
    simp [lk, e, i]
end Lw

/-! loops that check. -/
namespace Lw
open Dt PySem
/-- a cell that is no object of one's own -/
def Pln (c : Cell) : Prop := c = .no ∨ ∃ d, c = .fro d
theorem Pln.ni {c : Cell} (h : Pln c) : ∀ d, c ≠ .io d := by rcases h with rfl | ⟨x, rfl⟩ <;> simp
theorem Pln.f (d : D) : Pln (.fro d) := .inr ⟨d, rfl⟩
theorem Pln.n : Pln .no := .inl rfl
theorem Pln.set {c : Cell} (h : Pln c) {i : Nat} {d : D} {ρ : Dt.Env} (e : ρ[i]? = some c) : gSet i d ρ = .ok () (ρ.set i (.fro d)) := gSet_ne e h.ni
theorem for_chk {α : Type} {enc : α → D} {p : α → Bool} {I : Dt.Env → Prop} {g : SG} {s : SS} : ∀ {xs : List α} {ρ : Dt.Env}, (∀ x ∈ xs, ∀ ρ, I ρ → ∃ ρ1 ρ2, g (enc x) ρ = .ok () ρ1 ∧ s ρ1 = .ok (if p x = true then .nx else .rt (.bl false)) ρ2 ∧ I ρ2) → I ρ →
    ∃ ρ', forGo g s (xs.map enc) ρ = .ok (if xs.all p = true then .nx else .rt (.bl false)) ρ' ∧ I ρ'
  | [], ρ, _, hi => ⟨ρ, rfl, hi⟩
  | x :: xs, ρ, h, hi => by
    obtain ⟨ρ1, ρ2, e1, e2, i2⟩ := h x List.mem_cons_self ρ hi
    rw [List.map_cons]
    unfold forGo
    rw [e1, R.bind_ok, e2, R.bind_ok]
    cases hp : p x with
    | true =>
      obtain ⟨ρ', e3, i3⟩ := for_chk (fun y hy => h y (List.mem_cons_of_mem _ hy)) i2
      refine ⟨ρ', ?_, i3⟩
      rw [List.all_cons, hp, Bool.true_and]
      exact e3
    | false =>
      refine ⟨ρ2, ?_, i2⟩
      rw [List.all_cons, hp, Bool.false_and]
      rfl
end Lw

/-! the law's own check of weights. -/
namespace Lw
open Dt PySem
def barsZ (sys : Sy) (m : Nat) (w : List Int) : Bool := (List.range m).all fun p => dot w (colD sys p) == 0
def barsS (sys : Sy) (w : List Int) : Bool := (w.zip sys).any fun q => decide (0 < q.1) && q.2.1
def barsB (sys : Sy) (m : Nat) (w : List Int) : Bool := barsZ sys m w && barsS sys w
theorem bars_true {sys : Sy} {m : Nat} {w : List Int} (h : Bars sys m w) : barsB sys m w = true := by
  unfold barsB barsZ barsS
  rw [Bool.and_eq_true, List.all_eq_true, List.any_eq_true]
  refine ⟨fun p hp => by simpa using h.z p (List.mem_range.mp hp), ?_⟩
  obtain ⟨q, h1, h2, h3⟩ := h.st
  exact ⟨q, h1, by simp [h2, h3]⟩
theorem zip_col (w : List Int) (sys : Sy) (p : Nat) : ((w.zip sys).map fun q => q.1 * q.2.2.getD p 0).sum = dot w (colD sys p) := by
  unfold colD
  induction w generalizing sys with
  | nil => rfl
  | cons a w ih => cases sys with
    | nil => rfl
    | cons b sys => simp only [List.zip_cons_cons, List.map_cons, List.sum_cons, dot, ih]
theorem pair_zip2 (w : List Int) (sys : Sy) : pairUp (w.map D.int) (sys.map pairD) = (w.zip sys).map fun p => .arg [.int p.1, pairD p.2] := by
  unfold pairUp
  induction w generalizing sys with
  | nil => rfl
  | cons a f ih => cases sys with
    | nil => rfl
    | cons b g => simp only [List.map_cons, List.zipWith_cons_cons, List.zip_cons_cons, ih]
theorem upn_rng (m : Nat) : upto 0 m = (List.range m).map fun p : Nat => D.int (p : Nat) := by
  unfold upto
  exact List.map_congr_left fun i _ => by simp
theorem getD_b {f : List Int} {p a : Nat} (h : ∀ y ∈ f, y.natAbs ≤ 2 ^ a) : (f.getD p 0).natAbs ≤ 2 ^ a := by
  rw [List.getD_eq_getElem?_getD]
  cases e : f[p]? with
  | none => exact Nat.zero_le _
  | some x => exact h x (List.mem_of_getElem? e)
theorem lbar_turn {sys : Sy} {w : List Int} {m p : Nat} (hl : ∀ q ∈ sys, q.2.length = m) (hp : p < m) (hM : ∀ y ∈ w, ∀ q ∈ sys, ∀ p, CMulA y (q.2.getD p 0)) (wl : w.length ≤ 1000) :
    t0_L_bars [.fro (sysD sys), .fro (intsD w), .fro (.int (p : Nat)), .no, .no] = .ok (if (dot w (colD sys p) == 0) = true then .nx else .rt (.bl false)) [.fro (sysD sys), .fro (intsD w), .fro (.int (p : Nat)), .no, .no] := by
  have hc : compGo [3, 4] (gTup' 2 (gC (gSet 3) (gC (gSet 4) gN))) tT1 (sOps gMul (b2 (sLoc 3) (sVal (sOps gIdx (b2 (sVal (sOps gIdx (b2 (sLoc 4) (sVal (sCst (.int 1)))))) (sLoc 2)))))) ((w.zip sys).map fun p => .arg [.int p.1, pairD p.2]) [.fro (sysD sys), .fro (intsD w), .fro (.int (p : Nat)), .no, .no] = .ok ((w.zip sys).map fun q => .int (q.1 * q.2.2.getD p 0)) [.fro (sysD sys), .fro (intsD w), .fro (.int (p : Nat)), .no, .no] := by
    refine comp_gen (enc := fun p : Int × (Bool × List Int) => D.arg [.int p.1, pairD p.2]) (F := fun q : Int × (Bool × List Int) => D.int (q.1 * q.2.2.getD p 0)) fun q hq => ?_
    have mz := List.of_mem_zip hq
    have m1 : gMul [.int q.1, .int (q.2.2.getD p 0)] = some (.int (q.1 * q.2.2.getD p 0)) := if_pos (hM _ mz.1 _ mz.2 p)
    have i1 : gIdx [pairD q.2, .int 1] = some (intsD q.2.2) := rfl
    have i2 := idx_ints (f := q.2.2) (p := p) (by rw [hl _ mz.2]; exact hp)
    refine ⟨[.fro (sysD sys), .fro (intsD w), .fro (.int (p : Nat)), .fro (.int q.1), .fro (pairD q.2)], [.fro (sysD sys), .fro (intsD w), .fro (.int (p : Nat)), .fro (.int q.1), .fro (pairD q.2)], by simp, ?_, by simp [plainAt], by simp [wipeE]⟩
    show _ = R.ok (D.int (q.1 * q.2.2.getD p 0)) _
    generalize q.2.2.getD p 0 = v at m1 i2 ⊢
    simp [i1, i2, m1]
  have e0 : c0_L_bars [.fro (sysD sys), .fro (intsD w), .fro (.int (p : Nat)), .no, .no] = .ok (.lst ((w.zip sys).map fun q => .int (q.1 * q.2.2.getD p 0))) [.fro (sysD sys), .fro (intsD w), .fro (.int (p : Nat)), .no, .no] :=
    scomp_ok (ds := pairUp (w.map D.int) (sys.map pairD)) (by simp [zipG, seqD, intsD, sysD]) (by simp [plainAt]) (by unfold pairUp; rw [List.length_zipWith]; exact line_pos (by simp; omega)) (by simp [wipeE]) (by rw [pair_zip2]; exact hc) (by simp [backE])
  have es : gSum [.lst ((w.zip sys).map fun q => .int (q.1 * q.2.2.getD p 0))] = some (.int (dot w (colD sys p))) := by
    show (intsOf _).map _ = _
    rw [intsOf_map (fun q : Int × (Bool × List Int) => q.1 * q.2.2.getD p 0), Option.map_some, zip_col]
  have en : gNe [.int (dot w (colD sys p)), .int 0] = some (.bl (!(dot w (colD sys p) == 0))) := rfl
  unfold t0_L_bars
  generalize (w.zip sys).map (fun q => D.int (q.1 * q.2.2.getD p 0)) = zs at e0 es
  generalize hv : (dot w (colD sys p) == 0) = v at *
  cases v <;> simp [e0, es, en]
theorem lbar_c1 {sys : Sy} {w : List Int} {c2 : Cell} (wl : w.length ≤ 1000) :
    c1_L_bars [.fro (sysD sys), .fro (intsD w), c2, .no, .no] = .ok (.lst (((w.zip sys).filter fun q => decide (0 < q.1) && q.2.1).map fun _ => .int 1)) [.fro (sysD sys), .fro (intsD w), c2, .no, .no] := by
  have hc := comp_filt (enc := fun p : Int × (Bool × List Int) => D.arg [.int p.1, pairD p.2]) (F := fun _ : Int × (Bool × List Int) => D.int 1) (P := fun q => decide (0 < q.1) && q.2.1) (vs := [3, 4]) (g := gTup' 2 (gC (gSet 3) (gC (gSet 4) gN))) (t := tAndS (sTst (sOps gGt (b2 (sLoc 3) (sVal (sCst (.int 0)))))) (sTru (sVal (sOps gIdx (b2 (sLoc 4) (sVal (sCst (.int 0)))))))) (s := sCst (.int 1)) (ρ := [.fro (sysD sys), .fro (intsD w), c2, .no, .no]) (xs := w.zip sys)
    (fun q _ => by
      have i0 : gIdx [pairD q.2, .int 0] = some (.bl q.2.1) := rfl
      refine ⟨[.fro (sysD sys), .fro (intsD w), c2, .fro (.int q.1), .fro (pairD q.2)], [.fro (sysD sys), .fro (intsD w), c2, .fro (.int q.1), .fro (pairD q.2)], by simp, ?_, by simp [plainAt], by simp [wipeE], [.fro (sysD sys), .fro (intsD w), c2, .fro (.int q.1), .fro (pairD q.2)], by simp, by simp [plainAt], by simp [wipeE]⟩
      by_cases z : 0 < q.1 <;> simp [gGt, lexI, z, i0])
  exact scomp_ok (ds := pairUp (w.map D.int) (sys.map pairD)) (by simp [zipG, seqD, intsD, sysD]) (by simp [plainAt]) (by unfold pairUp; rw [List.length_zipWith]; exact line_pos (by simp; omega)) (by simp [wipeE]) (by rw [pair_zip2]; exact hc) (by simp [backE])
theorem filt_any {α : Type} (p : α → Bool) (F : α → D) (xs : List α) : ((xs.filter p).map F).isEmpty = !xs.any p := by
  induction xs with
  | nil => rfl
  | cons x xs ih => cases h : p x <;> simp [h] at ih ⊢ <;> exact ih
theorem br_gen {A : SS} {C : SE} {d w : D} {ρ' : Dt.Env} {zs : List D} {b : Bool} (e : A [.fro d, .fro w, .no, .no, .no] = .ok (if b = true then .nx else .rt (.bl false)) ρ') (ec : b = true → C ρ' = .ok (.lst zs) ρ') (en : gNe [.lst zs, .lst []] = some (.bl (!zs.isEmpty))) :
    runP 5 2 (sSeq A (sRet (sOps gNe (b2 (sVal C) (sVal (sLst sNil)))))) [d, w] = .ok (.bl (b && !zs.isEmpty)) [] := by
  have hz : 0 ≤ sizeLine := Nat.zero_le _
  unfold runP
  cases b
  · simp [e]
  · simp [e, ec rfl, en]
theorem lbars_ok {sys : Sy} {w : List Int} {m : Nat} (h1 : 1 ≤ sys.length) (hl : ∀ q ∈ sys, q.2.length = m) (hm : m ≤ 1000) (hM : ∀ y ∈ w, ∀ q ∈ sys, ∀ p, CMulA y (q.2.getD p 0)) (wl : w.length ≤ 1000) : m_L_bars [sysD sys, intsD w] = .ok (.bl (barsB sys m w)) [] := by
  obtain ⟨q0, sys', rfl⟩ : ∃ q0 sys', sys = q0 :: sys' := by
    cases sys with
    | nil => simp at h1
    | cons a b => exact ⟨a, b, rfl⟩
  have l0 : q0.2.length = m := hl q0 List.mem_cons_self
  have i3 : gLen [intsD q0.2] = some (.int (m : Nat)) := by simp [gLen, intsD, l0]
  have i2 : gIdx [pairD q0, .int 1] = some (intsD q0.2) := rfl
  obtain ⟨ρ', e, c2, _, rfl⟩ := for_chk (enc := fun p : Nat => D.int (p : Nat)) (p := fun p => dot w (colD (q0 :: sys') p) == 0) (I := fun ρ => ∃ c2 : Cell, (∀ d, c2 ≠ .io d) ∧ ρ = [.fro (sysD (q0 :: sys')), .fro (intsD w), c2, .no, .no]) (g := gSet 2) (s := t0_L_bars) (xs := List.range m) (ρ := [.fro (sysD (q0 :: sys')), .fro (intsD w), .no, .no, .no])
    (fun p hp ρ ⟨c2, h2, hρ⟩ => by
      subst hρ
      exact ⟨_, _, gSet_ne rfl h2, lbar_turn hl (List.mem_range.mp hp) hM wl, _, by simp, rfl⟩) ⟨_, by simp, rfl⟩
  have ea : l0_L_bars [.fro (sysD (q0 :: sys')), .fro (intsD w), .no, .no, .no] = .ok (if barsZ (q0 :: sys') m w = true then .nx else .rt (.bl false)) [.fro (sysD (q0 :: sys')), .fro (intsD w), c2, .no, .no] := by
    unfold l0_L_bars sFor
    rw [rng1_it (n := m) (ρ' := [.fro (sysD (q0 :: sys')), .fro (intsD w), .no, .no, .no]) (by simp [sys_idx, i2, i3]) hm, R.bind_ok, upn_rng]
    exact e
  have := br_gen (A := l0_L_bars) (C := c1_L_bars) (zs := ((w.zip (q0 :: sys')).filter fun q => decide (0 < q.1) && q.2.1).map fun _ => .int 1) ea (fun _ => lbar_c1 wl) (by
    show (eqD _ _).map _ = _
    rw [lst_ne (m := 1000) (n := 1) (fun d hd => by
      obtain ⟨_, _, rfl⟩ := List.mem_map.mp hd
      exact ok_int) (by
      rw [List.length_map]
      exact Nat.le_trans (List.length_filter_le _ _) (by rw [List.length_zip]; omega)) (by omega)]
    rfl)
  rw [filt_any, Bool.not_not] at this
  exact this
end Lw

/-! one statement at a time. -/
namespace Lw
open Dt PySem
theorem seq_ok {a b : SS} {ρ ρ' : Dt.Env} (h : a ρ = .ok .nx ρ') : sSeq a b ρ = b ρ' := by rw [ev_seq, h]; rfl
theorem asg_set {i : Nat} {s : SE} {ρ ρ1 : Dt.Env} {d : D} {c : Cell} (e : s ρ = .ok d ρ1) (hc : ρ1[i]? = some c) (hp : Pln c) : sAsg (gSet i) s ρ = .ok .nx (ρ1.set i (.fro d)) := by
  rw [ev_asg, e, R.bind_ok, hp.set hc, R.bind_ok]
theorem asg_own {i : Nat} {s : SE} {ρ ρ1 : Dt.Env} {d : D} {c : Cell} (e : s ρ = .ok d ρ1) (hc : ρ1[i]? = some c) (hp : Pln c) : sAsg (gOwn i) s ρ = .ok .nx (ρ1.set i (.own d)) := by
  rw [ev_asg, e, R.bind_ok, ev_gOwn, hc]
  rcases hp with rfl | ⟨x, rfl⟩ <;> rfl
theorem if_t {t : ST} {a b : SS} {ρ ρ1 : Dt.Env} (e : t ρ = .ok true ρ1) : sIfS t a b ρ = a ρ1 := by rw [ev_ifS, e]; rfl
theorem if_f {t : ST} {a b : SS} {ρ ρ1 : Dt.Env} (e : t ρ = .ok false ρ1) : sIfS t a b ρ = b ρ1 := by rw [ev_ifS, e]; rfl
theorem or_f {t u : ST} {ρ ρ1 : Dt.Env} (e : t ρ = .ok false ρ1) : tOrS t u ρ = u ρ1 := by rw [ev_or, e]; rfl
theorem or_t {t u : ST} {ρ ρ1 : Dt.Env} (e : t ρ = .ok true ρ1) : tOrS t u ρ = .ok true ρ1 := by rw [ev_or, e]; rfl
theorem and_t {t u : ST} {ρ ρ1 : Dt.Env} (e : t ρ = .ok true ρ1) : tAndS t u ρ = u ρ1 := by rw [ev_and, e]; rfl
theorem and_f {t u : ST} {ρ ρ1 : Dt.Env} (e : t ρ = .ok false ρ1) : tAndS t u ρ = .ok false ρ1 := by rw [ev_and, e]; rfl
end Lw

/-! Arbitrary values, drawn. -/
namespace Lw
open Dt PySem
theorem c0_any_ok {f : Nat} {n : Nat} (h : ∀ {t : D}, TapeOk t → ∃ d t', m_L_any f [t, .int n] = .ok d [t'] ∧ TapeOk t' ∧ Ok 8 (n + 1) d) {t : D} (ht : TapeOk t) (v : D) :
    ∃ ds t', c0_L_any (m_L_any f) [.io t, .fro (.int ((n : Int) + 1)), .fro v, .no, .no] = .ok (.lst ds) [.io t', .fro (.int ((n : Int) + 1)), .fro v, .no, .no] ∧ TapeOk t' ∧ ds.length ≤ 3 ∧ ∀ d ∈ ds, Ok 8 (n + 1) d := by
  obtain ⟨k, t1, e1, h1, k0, k4⟩ := draw_lit 4 ht
  have hc := comp_inv (I := fun ρ => ∃ t, TapeOk t ∧ ρ = [.io t, .fro (.int ((n : Int) + 1)), .fro v, .no, .no]) (P := fun d => Ok 8 (n + 1) d) (vs := [4]) (g := gSet 4) (t := tT1)
    (s := sCallI 0 2 (m_L_any f) (sCons (sOps gSub (b2 (sLoc 1) (sVal (sCst (.int 1))))) sNil)) (ds := upto 0 k.toNat) (ρ := [.io t1, .fro (.int ((n : Int) + 1)), .fro v, .no, .no])
    (fun d hd ρ ⟨t, ht, hρ⟩ => by
      subst hρ
      obtain ⟨z, t2, e2, h2, hz⟩ := h ht
      refine ⟨[.io t, .fro (.int ((n : Int) + 1)), .fro v, .no, .fro d], _, [.io t2, .fro (.int ((n : Int) + 1)), .fro v, .no, .fro d], z, by simp, rfl, ?_, by simp [plainAt], ⟨t2, h2, by simp [wipeE]⟩, hz⟩
      have e3 : ((n : Int) + 1 - 1) = n := by omega
      simp [gSub, gI, e2, e3]) ⟨t1, h1, rfl⟩
  obtain ⟨zs, ρ', e2, ⟨t2, h2, rfl⟩, hl, hz⟩ := hc
  have hl3 : zs.length ≤ 3 := by rw [hl]; simp [upto]; omega
  refine ⟨zs, t2, ?_, h2, hl3, hz⟩
  unfold c0_L_any sComp
  have hlen : (upto 0 k.toNat).length ≤ sizeLine := line_pos (by simp [upto]; omega)
  have hr : rng1D [.int k] = some (upto 0 k.toNat) := by simp [rng1D]; omega
  simp [e1, hr, plainAt, hlen, wipeE, e2, backE]
theorem words_ok {d : D} (h : d ∈ [D.str "", .str "0", .str "a", .str "get", .str "add", .str "plus", .str "set"]) {m n : Nat} (hm : 4 ≤ m) : Ok m n d := by
  simp only [List.mem_cons, List.not_mem_nil, or_false] at h
  rcases h with rfl | rfl | rfl | rfl | rfl | rfl | rfl <;> rw [ok_str] <;> refine ⟨Nat.le_trans ?_ hm, ?_⟩ <;> decide +kernel
set_option maxHeartbeats 4000000 in
theorem any_low {f n : Nat} {v : Int} {t t1 : D} (e1 : m_L_draw [t, .int 13] = .ok (.int v) [t1]) (h1 : TapeOk t1) (v0 : 0 ≤ v) (hv : v < 8) (hn : ¬ (v < 4 ∧ 0 < (n : Int))) : ∃ d t', m_L_any (f + 1) [t, .int n] = .ok d [t'] ∧ TapeOk t' ∧ Ok 8 (n + 1) d := by
  obtain ⟨a, t2, e2, h2, _, _⟩ := draw_lit 12 h1
  obtain ⟨b, t3, e3, h3, _, _⟩ := draw_lit 1000000000000 h2
  have c2 : L2.CPow 10 12 := ⟨by decide, by decide, by decide⟩
  show ∃ d t', runI 5 2 (b_L_any (m_L_any f)) [t, .int n] = .ok d [t'] ∧ TapeOk t' ∧ Ok 8 (n + 1) d
  have hb : ∃ x, L2.atI [D.int (a - 2), .int b, .int 0, .int 3] (if 0 < v - 4 then v - 4 else 0) = some x ∧ x ∈ [D.int (a - 2), .int b, .int 0, .int 3] := atI_in (by split <;> omega) (by simp; split <;> omega)
  obtain ⟨x, ex, mx⟩ := hb
  have ox : Ok 8 (n + 1) x := by
    simp only [List.mem_cons, List.not_mem_nil, or_false] at mx
    rcases mx with rfl | rfl | rfl | rfl <;> simp
  unfold runI b_L_any
  by_cases hv4 : v < 4
  · have hn' : ¬ 0 < (n : Int) := fun z => hn ⟨hv4, z⟩
    have hn2 : n = 0 := by omega
    subst hn2
    simp [e1, gLt, gGt, lexI, hv4, hv, e2, gSub, gI, gPow, c2, e3, gMax2, line4, gIdx, idxD, lastIo]
    simp at ex
    simp [ex]
    exact ⟨x, t3, ⟨rfl, rfl⟩, h3, ox⟩
  · simp [e1, gLt, gGt, lexI, hv4, hv, e2, gSub, gI, gPow, c2, e3, gMax2, line4, gIdx, idxD, lastIo]
    simp at ex
    simp [ex]
    exact ⟨x, t3, ⟨rfl, rfl⟩, h3, ox⟩
set_option maxHeartbeats 4000000 in
theorem any_high {f n : Nat} {v : Int} {t t1 : D} (e1 : m_L_draw [t, .int 13] = .ok (.int v) [t1]) (h1 : TapeOk t1) (hv : 8 ≤ v) (v13 : v < 13) : ∃ d t', m_L_any (f + 1) [t, .int n] = .ok d [t'] ∧ TapeOk t' ∧ Ok 8 (n + 1) d := by
  obtain ⟨a, t2, e2, h2, a0, a7⟩ := draw_lit 7 h1
  obtain ⟨y, ey, my⟩ : ∃ y, L2.atI [D.str "", .str "0", .str "a", .str "get", .str "add", .str "plus", .str "set"] a = some y ∧ y ∈ [D.str "", .str "0", .str "a", .str "get", .str "add", .str "plus", .str "set"] := atI_in a0 (by simpa using a7)
  have oy : Ok 8 (n + 1) y := words_ok my (by decide)
  obtain ⟨x, ex, mx⟩ : ∃ x, L2.atI [D.bl true, .bl false, .non, y, .tup [.int 1, .int 2]] (v - 8) = some x ∧ x ∈ [D.bl true, .bl false, .non, y, .tup [.int 1, .int 2]] := atI_in (by omega) (by simp; omega)
  have ox : Ok 8 (n + 1) x := by
    simp only [List.mem_cons, List.not_mem_nil, or_false] at mx
    rcases mx with rfl | rfl | rfl | rfl | rfl
    · simp
    · simp
    · simp
    · exact oy
    · exact ok_tup.mpr ⟨by decide, by simp⟩
  show ∃ d t', runI 5 2 (b_L_any (m_L_any f)) [t, .int n] = .ok d [t'] ∧ TapeOk t' ∧ Ok 8 (n + 1) d
  have hv4 : ¬ v < 4 := by omega
  have hv8 : ¬ v < 8 := by omega
  unfold runI b_L_any
  simp [e1, gLt, gGt, lexI, hv4, hv8, e2, gSub, gI, line5, line7, line2, gIdx, idxD, ey, ex, lastIo]
  exact ⟨x, t2, ⟨rfl, rfl⟩, h2, ox⟩
set_option maxHeartbeats 4000000 in
theorem any_step {f n : Nat} (h : n = 0 ∨ ∃ k, n = k + 1 ∧ ∀ {t : D}, TapeOk t → ∃ d t', m_L_any f [t, .int k] = .ok d [t'] ∧ TapeOk t' ∧ Ok 8 (k + 1) d) {t : D} (ht : TapeOk t) : ∃ d t', m_L_any (f + 1) [t, .int n] = .ok d [t'] ∧ TapeOk t' ∧ Ok 8 (n + 1) d := by
  obtain ⟨v, t1, e1, h1, v0, v13⟩ := draw_lit 13 ht
  by_cases hv8 : 8 ≤ v
  · exact any_high e1 h1 hv8 v13
  by_cases hlow : v < 4 ∧ 0 < (n : Int)
  case neg => exact any_low e1 h1 v0 (by omega) hlow
  obtain ⟨hv4, hn⟩ := hlow
  rcases h with rfl | ⟨k, rfl, h⟩
  · exact absurd hn (by decide)
  show ∃ d t', runI 5 2 (b_L_any (m_L_any f)) [t, .int (k + 1 : Nat)] = .ok d [t'] ∧ TapeOk t' ∧ Ok 8 (k + 1 + 1) d
  unfold runI b_L_any
  obtain ⟨ds, t2, e2, h2, l2, o2⟩ := c0_any_ok h h1 (.int v)
  have q : Ok 8 (k + 1 + 1) (.lst ds) := ⟨by omega, o2⟩
  have q' : Ok 8 (k + 1 + 1) (.tup ds) := ⟨by omega, o2⟩
  obtain ⟨x, ex, mx⟩ : ∃ x, L2.atI [D.lst ds, .tup ds, .tup ds, .tup ds] v = some x ∧ x ∈ [D.lst ds, .tup ds, .tup ds, .tup ds] := atI_in v0 (by simpa using hv4)
  have ox : Ok 8 (k + 1 + 1) x := by
    simp only [List.mem_cons, List.not_mem_nil, or_false] at mx
    rcases mx with rfl | rfl | rfl | rfl
    · exact q
    · exact q'
    · exact q'
    · exact q'
  have hk : (0 : Int) < (k : Int) + 1 := by omega
  simp [e1, gLt, gGt, lexI, hv4, hk, e2, gTuple, line4, gIdx, idxD, ex, lastIo]
  exact ⟨x, t2, ⟨rfl, rfl⟩, h2, ox⟩
theorem any_ok : ∀ (n f : Nat), n < f → ∀ {t : D}, TapeOk t → ∃ d t', m_L_any f [t, .int n] = .ok d [t'] ∧ TapeOk t' ∧ Ok 8 (n + 1) d
  | 0, f + 1, _, t, ht => any_step (.inl rfl) ht
  | n + 1, f + 1, h, t, ht => any_step (.inr ⟨n, rfl, fun h' => any_ok n f (by omega) h'⟩) ht
end Lw

/-! Values with one change, drawn. -/
namespace Lw
open Dt PySem
set_option maxHeartbeats 8000000 in
theorem spoilt_turn {f n m : Nat} (hm : m ≤ 1000) {d : D} {ds : List D} (hd : d = .tup ds ∨ d = .lst ds) (ho : ds.length ≤ m ∧ ∀ x ∈ ds, Ok m n x) {t t1 : D} (h1 : TapeOk t1)
    (e1 : ds = [] ∧ t1 = t ∨ ds ≠ [] ∧ m_L_draw [t, .int 7] = .ok (.int 0) [t1]) : ∃ z t', m_L_spoilt (f + 1) [t, d] = .ok z [t'] ∧ TapeOk t' ∧ Ok (m + 8) (n + 4) z := by
  obtain ⟨a, t2, e2, h2, a0, a2⟩ := draw_lit 2 h1
  obtain ⟨z, t3, e3, h3, oz⟩ := any_ok 2 40 (by decide) h2
  have oz' : Ok (m + 8) (n + 4) z := oz.mono (by omega) (by omega)
  have ot : Ok (m + 8) (n + 4) (.tup ds) := Ok.mono (n := n + 1) (m := m) (by omega) (by omega) (d := .tup ds) ho
  have ol : Ok (m + 8) (n + 4) (.lst ds) := Ok.mono (n := n + 1) (m := m) (by omega) (by omega) (d := .lst ds) ho
  have hw : ∀ e, e = D.tup ds ∨ e = D.lst ds → m_L_whole [e] = .ok (.bl false) [] := fun e he => by
    rcases he with rfl | rfl <;> simp [m_L_whole, b_L_whole, runP, isT, isTn, tyN]
  have e3' : m_L_any 40 [t2, D.int 2] = .ok z [t3] := e3
  show ∃ z t', runI _ _ (b_L_spoilt (m_L_spoilt f)) [t, d] = .ok z [t'] ∧ TapeOk t' ∧ Ok (m + 8) (n + 4) z
  unfold runI b_L_spoilt u0_L_spoilt
  rcases e1 with ⟨rfl, rfl⟩ | ⟨hne, e1⟩
  · by_cases ha : a = 0
    · subst ha
      rcases hd with rfl | rfl
      · simp [isT, isTn, tyN, gLen, gGt, lexI, hw, e2, gEq, gList, gTuple, lastIo]
        exact ⟨_, _, ⟨rfl, rfl⟩, h2, ol⟩
      · simp [isT, isTn, tyN, gLen, gGt, lexI, hw, e2, gEq, gList, gTuple, lastIo]
        exact ⟨_, _, ⟨rfl, rfl⟩, h2, ot⟩
    · have ha' : (a == 0) = false := by simpa using ha
      rcases hd with rfl | rfl
      · simp [isT, isTn, tyN, gLen, gGt, lexI, hw, e2, gEq, ha', e3', lastIo]
        exact ⟨_, _, ⟨rfl, rfl⟩, h3, oz'⟩
      · simp [isT, isTn, tyN, gLen, gGt, lexI, hw, e2, gEq, ha', e3', lastIo]
        exact ⟨_, _, ⟨rfl, rfl⟩, h3, oz'⟩
  · have hl : 0 < ds.length := by cases ds with | nil => exact absurd rfl hne | cons _ _ => simp
    by_cases ha : a = 0
    · subst ha
      rcases hd with rfl | rfl
      · simp [isT, isTn, tyN, gLen, gGt, lexI, hw, hl, e1, e2, gEq, gList, gTuple, lastIo]
        exact ⟨_, _, ⟨rfl, rfl⟩, h2, ol⟩
      · simp [isT, isTn, tyN, gLen, gGt, lexI, hw, hl, e1, e2, gEq, gList, gTuple, lastIo]
        exact ⟨_, _, ⟨rfl, rfl⟩, h2, ot⟩
    · have ha' : (a == 0) = false := by simpa using ha
      rcases hd with rfl | rfl
      · simp [isT, isTn, tyN, gLen, gGt, lexI, hw, hl, e1, e2, gEq, ha', e3', lastIo]
        exact ⟨_, _, ⟨rfl, rfl⟩, h3, oz'⟩
      · simp [isT, isTn, tyN, gLen, gGt, lexI, hw, hl, e1, e2, gEq, ha', e3', lastIo]
        exact ⟨_, _, ⟨rfl, rfl⟩, h3, oz'⟩
theorem pop_at {ds : List D} {k : Nat} (hk : k < ds.length) (hm : ds.length ≤ 100000) : mPop ds [.int k] = some (ds[k], ds.eraseIdx k) := by
  have h1 : -(2 ^ 63 : Int) ≤ (k : Int) ∧ (k : Int) < 2 ^ 63 := ⟨by omega, by omega⟩
  simp only [mPop, seqIndex_lt hk, if_pos h1, Option.bind_some, List.getElem?_eq_getElem hk, Option.map_some]
theorem insert_at {ds : List D} {k : Nat} {x : D} (hk : k < ds.length) (hm : ds.length ≤ 100000) : mInsert ds [.int k, x] = some (.non, ds.take k ++ x :: ds.drop k) := by
  have h1 : ds.length < sizeLine ∧ 0 ≤ (k : Int) ∧ (k : Int) < 2 ^ 63 := ⟨small_line hm, by omega, by omega⟩
  simp only [mInsert, if_pos h1, Int.toNat_natCast, List.append_assoc, List.singleton_append]
theorem sMut_ok {i : Nat} {f : List D → List D → Option (D × List D)} {s : SA} {ρ ρ' : Dt.Env} {es ds ds0 : List D} {r : D × List D} (h0 : heldL ρ i = some ds0) (h1 : s ρ = .ok es ρ') (h2 : heldL ρ' i = some ds) (h3 : f ds es = some r) :
    sMut i f s ρ = .ok r.1 (put ρ' i (.lst r.2)) := by
  unfold sMut
  rw [h0, h1]
  show (match heldL ρ' i with | none => _ | some ds => _) = _
  rw [h2]
  show (match f ds es with | some r => _ | none => _) = _
  rw [h3]
theorem sExpr_ok {s : SE} {ρ ρ' : Dt.Env} {x : D} (h : s ρ = .ok x ρ') : sExpr s ρ = .ok .nx ρ' := by
  unfold sExpr
  rw [h]
  rfl
theorem if_8 {A X Y : SS} {a b c d e : Cell} {ρ' : Dt.Env} (h : X [a, b, c, d, .fro (.int 8), e] = .ok .nx ρ') :
    sIfS (sTst (sOps gLt (b2 (sLoc 4) (sVal (sCst (.int 8)))))) A (sIfS (sTst (sOps gEq (b2 (sLoc 4) (sVal (sCst (.int 8)))))) X Y) [a, b, c, d, .fro (.int 8), e] = .ok .nx ρ' := by
  simp [gLt, lexI, gEq, h]
set_option maxHeartbeats 8000000 in
theorem i0_spoilt {f n m k : Nat} {ds : List D} {P : D → Prop} (hp : ∀ x ∈ ds, P x) (ih : ∀ {x t : D}, P x → TapeOk t → ∃ z t', m_L_spoilt f [t, x] = .ok z [t'] ∧ TapeOk t' ∧ Ok (m + 8) (n + 3) z) (hm : m ≤ 1000) {d : D}
    (ho : ds.length ≤ m ∧ ∀ x ∈ ds, Ok m n x) {t : D} (h3 : TapeOk t) (hk : k < ds.length) {c : Int} (c0 : 0 ≤ c) (c12 : c < 12) :
    ∃ zs t', i0_L_spoilt (m_L_spoilt f) [.io t, .fro d, .fro (.int k), .own (.lst ds), .fro (.int c), .no] = .ok .nx [.io t', .fro d, .fro (.int k), .own (.lst zs), .fro (.int c), .no] ∧ TapeOk t' ∧ zs.length ≤ m + 8 ∧ ∀ x ∈ zs, Ok (m + 8) (n + 3) x := by
  have hl : 0 < ds.length := by omega
  have hs : ds.length ≤ 100000 := by omega
  have up : ∀ x ∈ ds, Ok (m + 8) (n + 3) x := fun x hx => (ho.2 x hx).mono (by omega) (by omega)
  unfold i0_L_spoilt
  by_cases hc8 : c < 8
  · obtain ⟨z, t4, e4, h4, oz⟩ := ih (hp _ (List.getElem_mem hk)) h3
    simp [gLt, lexI, hc8, gIdx, idxD, atI_at hk, e4, putD, ixN_at hk]
    exact ⟨_, _, ⟨rfl, rfl⟩, h4, by rw [List.length_set]; omega, fun x hx => by
      rcases List.mem_or_eq_of_mem_set hx with hx | rfl
      · exact up x hx
      · exact oz⟩
  by_cases hc : c = 8
  · subst hc
    have e8 := sMut_ok (i := 3) (f := mPop) (s := sCons (sVar 2) sNil) (ρ := [.io t, .fro d, .fro (.int k), .own (.lst ds), .fro (.int 8), .no]) (ρ' := [.io t, .fro d, .fro (.int k), .own (.lst ds), .fro (.int 8), .no]) (es := [.int k]) (ds := ds) (ds0 := ds) (r := (ds[k], ds.eraseIdx k)) rfl (by simp) rfl (pop_at hk hs)
    have e9 := sExpr_ok e8
    exact ⟨_, _, if_8 e9, h3, by rw [List.length_eraseIdx_of_lt hk]; omega, fun x hx => up x (List.mem_of_mem_eraseIdx hx)⟩
  have hc' : (c == 8) = false := by simpa using hc
  have ins : ∀ x, Ok (m + 8) (n + 3) x → (ds.take k ++ x :: ds.drop k).length ≤ m + 8 ∧ ∀ y ∈ ds.take k ++ x :: ds.drop k, Ok (m + 8) (n + 3) y := fun x ox => ⟨by simp; omega, fun y hy => by
    rcases List.mem_append.mp hy with hy | hy
    · exact up y (List.mem_of_mem_take hy)
    · rcases List.mem_cons.mp hy with rfl | hy
      · exact ox
      · exact up y (List.mem_of_mem_drop hy)⟩
  by_cases hc9 : c = 9
  · subst hc9
    obtain ⟨j, t4, e4, h4, hj⟩ := draw_len h3 hl (by omega)
    obtain ⟨o1, o2⟩ := ins _ (up _ (List.getElem_mem hj))
    simp [gLt, lexI, gEq, gLen, e4, gIdx, idxD, atI_at hj, insert_at hk hs]
    exact ⟨_, _, ⟨rfl, rfl⟩, h4, o1, o2⟩
  have hc9' : (c == 9) = false := by simpa using hc9
  by_cases hc10 : c = 10
  · subst hc10
    simp [gLt, lexI, gEq]
    exact ⟨_, _, ⟨rfl, rfl⟩, h3, by simp; omega, fun x hx => up x (List.mem_reverse.mp hx)⟩
  have hc10' : (c == 10) = false := by simpa using hc10
  obtain ⟨z, t4, e4, h4, oz⟩ := any_ok 1 40 (by decide) h3
  have e4' : m_L_any 40 [t, D.int 1] = .ok z [t4] := e4
  obtain ⟨o1, o2⟩ := ins z (oz.mono (by omega) (by omega))
  simp [gLt, lexI, gEq, hc8, hc', hc9', hc10', e4', insert_at hk hs]
  exact ⟨_, _, ⟨rfl, rfl⟩, h4, o1, o2⟩
set_option maxHeartbeats 8000000 in
theorem spoilt_list {f n m : Nat} {ds : List D} {P : D → Prop} (hp : ∀ x ∈ ds, P x) (ih : ∀ {x t : D}, P x → TapeOk t → ∃ z t', m_L_spoilt f [t, x] = .ok z [t'] ∧ TapeOk t' ∧ Ok (m + 8) (n + 3) z) (hm : m ≤ 1000) {d : D} (hd : d = .tup ds ∨ d = .lst ds)
    (ho : ds.length ≤ m ∧ ∀ x ∈ ds, Ok m n x) {t t1 : D} (h1 : TapeOk t1) (hne : ds ≠ []) {a : Int} (ha : 0 < a) (e1 : m_L_draw [t, .int 7] = .ok (.int a) [t1]) : ∃ z t', m_L_spoilt (f + 1) [t, d] = .ok z [t'] ∧ TapeOk t' ∧ Ok (m + 8) (n + 4) z := by
  have hl : 0 < ds.length := by cases ds with | nil => exact absurd rfl hne | cons _ _ => simp
  obtain ⟨k, t2, e2, h2, hk⟩ := draw_len h1 hl (by omega)
  obtain ⟨c, t3, e3, h3, c0, c12⟩ := draw_lit 12 h2
  obtain ⟨zs, t4, e4, h4, z1, z2⟩ := i0_spoilt (d := d) hp ih hm ho h3 hk c0 c12
  show ∃ z t', runI _ _ (b_L_spoilt (m_L_spoilt f)) [t, d] = .ok z [t'] ∧ TapeOk t' ∧ Ok (m + 8) (n + 4) z
  unfold runI b_L_spoilt u0_L_spoilt
  rcases hd with rfl | rfl
  · simp [isT, isTn, tyN, gLen, gGt, lexI, hl, e1, ha, e2, gList, e3, e4, gTuple, lastIo]
    exact ⟨_, _, ⟨rfl, rfl⟩, h4, z1, z2⟩
  · simp [isT, isTn, tyN, gLen, gGt, lexI, hl, e1, ha, e2, gList, e3, e4, gTuple, lastIo]
    exact ⟨_, _, ⟨rfl, rfl⟩, h4, z1, z2⟩
/-- no text within -/
def NoS : Nat → D → Prop
  | _, .non => True
  | _, .bl _ => True
  | _, .int _ => True
  | n + 1, .tup ds => ∀ d ∈ ds, NoS n d
  | n + 1, .lst ds => ∀ d ∈ ds, NoS n d
  | _, _ => False
theorem spoilt_leaf {f n m : Nat} {d : D} (hd : d = .non ∨ ∃ b, d = .bl b) {t : D} (h : TapeOk t) : ∃ z t', m_L_spoilt (f + 1) [t, d] = .ok z [t'] ∧ TapeOk t' ∧ Ok (m + 8) (n + 3) z := by
  obtain ⟨z, t3, e3, h3, oz⟩ := any_ok 2 40 (by decide) h
  have oz' : Ok (m + 8) (n + 3) z := oz.mono (by omega) (by omega)
  have hw : m_L_whole [d] = .ok (.bl false) [] := by
    rcases hd with rfl | ⟨b, rfl⟩ <;> simp [m_L_whole, b_L_whole, runP, isT, isTn, tyN]
  have e3' : m_L_any 40 [t, D.int 2] = .ok z [t3] := e3
  show ∃ z t', runI _ _ (b_L_spoilt (m_L_spoilt f)) [t, d] = .ok z [t'] ∧ TapeOk t' ∧ Ok (m + 8) (n + 3) z
  unfold runI b_L_spoilt
  rcases hd with rfl | ⟨b, rfl⟩
  · simp [isT, isTn, tyN, hw, e3', lastIo]
    exact ⟨_, _, ⟨rfl, rfl⟩, h3, oz'⟩
  · simp [isT, isTn, tyN, hw, e3', lastIo]
    exact ⟨_, _, ⟨rfl, rfl⟩, h3, oz'⟩
theorem spoilt_int {f n m : Nat} {i : Int} {t : D} (h : TapeOk t) : ∃ z t', m_L_spoilt (f + 1) [t, .int i] = .ok z [t'] ∧ TapeOk t' ∧ Ok (m + 8) (n + 3) z := by
  obtain ⟨a, t1, e1, h1, a0, a6⟩ := draw_lit 6 h
  have hw : m_L_whole [.int i] = .ok (.bl true) [] := by
    simp [m_L_whole, b_L_whole, runP, isT, isTn, tyN]
  show ∃ z t', runI _ _ (b_L_spoilt (m_L_spoilt f)) [t, .int i] = .ok z [t'] ∧ TapeOk t' ∧ Ok (m + 8) (n + 3) z
  unfold runI b_L_spoilt
  by_cases ha : 0 < a
  · obtain ⟨b, t2, e2, h2, b0, b6⟩ := draw_lit 6 h1
    obtain ⟨x, ex, mx⟩ : ∃ x, L2.atI [D.int 1, .int (-1), .int 2, .int (-2), .int 9, .int 1000] b = some x ∧ x ∈ [D.int 1, .int (-1), .int 2, .int (-2), .int 9, .int 1000] := atI_in (by omega) (by simp; omega)
    obtain ⟨j, rfl⟩ : ∃ j, x = .int j := by
      simp only [List.mem_cons, List.not_mem_nil, or_false] at mx
      rcases mx with rfl | rfl | rfl | rfl | rfl | rfl <;> exact ⟨_, rfl⟩
    simp [isT, isTn, tyN, hw, e1, ha, gGt, lexI, e2, gNeg, gIdx, idxD, ex, gAdd, lastIo, line6]
    exact ⟨_, _, ⟨rfl, rfl⟩, h2, ok_int⟩
  · obtain ⟨z, t3, e3, h3, oz⟩ := any_ok 2 40 (by decide) h1
    have oz' : Ok (m + 8) (n + 3) z := oz.mono (by omega) (by omega)
    have e3' : m_L_any 40 [t1, D.int 2] = .ok z [t3] := e3
    simp [isT, isTn, tyN, hw, e1, ha, gGt, lexI, e3', lastIo]
    exact ⟨_, _, ⟨rfl, rfl⟩, h3, oz'⟩
theorem spoilt_seq {f n m : Nat} (hm : m ≤ 1000) {d : D} {ds : List D} (hd : d = .tup ds ∨ d = .lst ds) (ho : ds.length ≤ m ∧ ∀ x ∈ ds, Ok m n x) {P : D → Prop} (hp : ∀ x ∈ ds, P x)
    (ih : ∀ {x t : D}, P x → TapeOk t → ∃ z t', m_L_spoilt f [t, x] = .ok z [t'] ∧ TapeOk t' ∧ Ok (m + 8) (n + 3) z) {t : D} (h : TapeOk t) : ∃ z t', m_L_spoilt (f + 1) [t, d] = .ok z [t'] ∧ TapeOk t' ∧ Ok (m + 8) (n + 4) z := by
  by_cases h0 : ds = []
  · exact spoilt_turn hm hd ho h (.inl ⟨h0, rfl⟩)
  obtain ⟨a, t1, e1, h1, a0, a7⟩ := draw_lit 7 h
  by_cases ha : a = 0
  · subst ha
    exact spoilt_turn hm hd ho h1 (.inr ⟨h0, e1⟩)
  · exact spoilt_list hp ih hm hd ho h1 h0 (by omega) e1
theorem spoilt_ok {m : Nat} (hm : m ≤ 1000) : ∀ n f : Nat, n < f → ∀ {d t : D}, Ok m n d ∧ NoS n d → TapeOk t → ∃ z t', m_L_spoilt f [t, d] = .ok z [t'] ∧ TapeOk t' ∧ Ok (m + 8) (n + 3) z := by
  intro n
  induction n with
  | zero =>
    intro f hf d t ⟨ho, hs⟩ h
    obtain ⟨f, rfl⟩ : ∃ g, f = g + 1 := ⟨f - 1, by omega⟩
    cases d with
    | non => exact spoilt_leaf (.inl rfl) h
    | bl b => exact spoilt_leaf (.inr ⟨b, rfl⟩) h
    | int i => exact spoilt_int h
    | _ => exact absurd hs (by simp [NoS])
  | succ n ih =>
    intro f hf d t ⟨ho, hs⟩ h
    obtain ⟨f, rfl⟩ : ∃ g, f = g + 1 := ⟨f - 1, by omega⟩
    cases d with
    | non => exact spoilt_leaf (.inl rfl) h
    | bl b => exact spoilt_leaf (.inr ⟨b, rfl⟩) h
    | int i => exact spoilt_int h
    | tup ds => exact spoilt_seq hm (.inl rfl) (ok_tup.mp ho) (fun x hx => ⟨(ok_tup.mp ho).2 x hx, hs x hx⟩) (ih f (by omega)) h
    | lst ds => exact spoilt_seq hm (.inr rfl) (ok_lst.mp ho) (fun x hx => ⟨(ok_lst.mp ho).2 x hx, hs x hx⟩) (ih f (by omega)) h
    | _ => exact absurd hs (by simp [NoS])
end Lw

/-! are_weights of any data: the program's check and the law's check are one. -/
namespace Lw
open Dt PySem
def isI : D → Bool
  | .int _ => true
  | _ => false
def natI : D → Bool
  | .int i => decide (0 ≤ i)
  | _ => false
theorem no_fn {k n : Nat} {x : Str} (h : Ok k n (.fn x)) : False := by cases n <;> exact h
theorem no_nd {k n : Nat} {x y : List D} (h : Ok k n (.nd x y)) : False := by cases n <;> exact h
theorem int_ok {k n : Nat} {d : D} (h : Ok k n d) : m_is_integer [d] = .ok (.bl (isI d)) [] := by
  cases d with
  | fn _ => exact (no_fn h).elim
  | nd _ _ => exact (no_nd h).elim
  | _ => simp [m_is_integer, b_is_integer, runP, isT, isTn, tyN, isI]
theorem whole_ok {k n : Nat} {d : D} (h : Ok k n d) : m_L_whole [d] = .ok (.bl (isI d)) [] := by
  cases d with
  | fn _ => exact (no_fn h).elim
  | nd _ _ => exact (no_nd h).elim
  | _ => simp [m_L_whole, b_L_whole, runP, isT, isTn, tyN, isI]
theorem nat_ints {ds : List D} (h : ds.all natI = true) : ∃ w : List Int, ds = w.map .int ∧ ∀ y ∈ w, 0 ≤ y :=
  ints_of fun z hz => by
    have := List.all_eq_true.mp h z hz
    cases z with
    | int i => exact ⟨i, rfl, by simpa [natI] using this⟩
    | _ => simp [natI] at this
def awB (sys : Sy) (m : Nat) : D → Bool
  | .tup ds => decide (ds.length = sys.length) && (ds.all natI && barsB sys m (ds.map fun d => match d with | .int i => i | _ => 0))
  | _ => false
theorem back_ints (w : List Int) : ((w.map D.int).map fun d => match d with | .int i => i | _ => 0) = w := by
  rw [List.map_map]
  exact List.map_id'' (fun _ => rfl) w
/-! ### the program's -/
theorem bc0 {d : D} {ds : List D} {c2 c4 c5 : Cell} {k n : Nat} (ho : ∀ x ∈ ds, Ok k n x) (hl : ds.length ≤ 1000) : c0_bars [.fro d, .fro (.tup ds), c2, .no, c4, c5] = .ok (.lst (ds.map fun d => .bl (natI d))) [.fro d, .fro (.tup ds), c2, .no, c4, c5] := by
  have e := comp_gen (enc := fun x : D => x) (F := fun x : D => D.bl (natI x)) (vs := [3]) (g := gSet 3) (s := sAnd (sCallP 1 (m_is_integer) (sCons (sVar 3) sNil)) (sOps gGe (b2 (sLoc 3) (sVal (sCst (.int 0)))))) (ρ := [.fro d, .fro (.tup ds), c2, .no, c4, c5]) (xs := ds)
    (fun x hx => by
      refine ⟨[.fro d, .fro (.tup ds), c2, .fro x, c4, c5], [.fro d, .fro (.tup ds), c2, .fro x, c4, c5], by simp, ?_, by simp [plainAt], by simp [wipeE]⟩
      have e := int_ok (ho x hx)
      cases x <;> simp [e, isI, natI, gGe, lexI])
  rw [List.map_id''  (fun _ => rfl)] at e
  exact scomp_ok (ds := ds) (by simp [itemsD]) (by simp [plainAt]) (line_pos (by omega)) (by simp [wipeE]) e (by simp [backE])
theorem allM {α : Type} (f : α → Bool) (xs : List α) : gAll [.lst (xs.map fun x => .bl (f x))] = some (.bl (xs.all f)) := by
  have : blsOf (xs.map fun x => .bl (f x)) = some (xs.map f) := by
    induction xs with
    | nil => rfl
    | cons x xs ih => rw [List.map_cons, blsOf_cons, ih]; rfl
  show (blsOf _).map _ = _
  rw [this]
  simp [List.all_map, Function.comp_def]
theorem anyM {α : Type} (f : α → Bool) (xs : List α) : gAny [.lst (xs.map fun x => .bl (f x))] = some (.bl (xs.any f)) := by
  have : blsOf (xs.map fun x => .bl (f x)) = some (xs.map f) := by
    induction xs with
    | nil => rfl
    | cons x xs ih => rw [List.map_cons, blsOf_cons, ih]; rfl
  show (blsOf _).map _ = _
  rw [this]
  simp [List.any_map, Function.comp_def]
theorem pair_zip4 (sys : Sy) (w : List Int) : pairUp (sys.map pairD) (w.map D.int) = (w.zip sys).map fun p => .arg [pairD p.2, .int p.1] := by
  unfold pairUp
  induction sys generalizing w with
  | nil => cases w <;> rfl
  | cons a f ih => cases w with
    | nil => rfl
    | cons b g => simp only [List.map_cons, List.zipWith_cons_cons, List.zip_cons_cons, ih]
theorem bg {q : Bool × List Int} {i : Int} {a b c2 : Cell} : gTup' 2 (gC (gTup' 2 (gC (gSet 4) (gC (gSet 5) gN))) (gC (gSet 3) gN)) (.arg [pairD q, .int i]) [a, b, c2, .no, .no, .no] = .ok () [a, b, c2, .fro (.int i), .fro (.bl q.1), .fro (intsD q.2)] := by
  simp [pairD]
theorem pu_len {sys : Sy} {w : List Int} (h : sys.length ≤ 1000) : (pairUp (sys.map pairD) (w.map D.int)).length ≤ sizeLine := by
  unfold pairUp
  rw [List.length_zipWith]
  exact line_pos (by simp; omega)
theorem bc1 {sys : Sy} {w : List Int} {c2 : Cell} (hs : sys.length ≤ 1000) : c1_bars [.fro (sysD sys), .fro (intsD w), c2, .no, .no, .no] = .ok (.lst ((w.zip sys).map fun q => .bl (decide (0 < q.1) && q.2.1))) [.fro (sysD sys), .fro (intsD w), c2, .no, .no, .no] := by
  have e := comp_gen (enc := fun p : Int × (Bool × List Int) => D.arg [pairD p.2, .int p.1]) (F := fun q : Int × (Bool × List Int) => D.bl (decide (0 < q.1) && q.2.1)) (vs := [3, 4, 5]) (g := gTup' 2 (gC (gTup' 2 (gC (gSet 4) (gC (gSet 5) gN))) (gC (gSet 3) gN))) (s := sAnd (sVar 4) (sOps gGt (b2 (sLoc 3) (sVal (sCst (.int 0)))))) (ρ := [.fro (sysD sys), .fro (intsD w), c2, .no, .no, .no]) (xs := w.zip sys)
    (fun q _ => by
      refine ⟨[.fro (sysD sys), .fro (intsD w), c2, .fro (.int q.1), .fro (.bl q.2.1), .fro (intsD q.2.2)], [.fro (sysD sys), .fro (intsD w), c2, .fro (.int q.1), .fro (.bl q.2.1), .fro (intsD q.2.2)], bg, ?_, by simp [plainAt], by simp [wipeE]⟩
      cases hq : q.2.1 <;> simp [gGt, lexI, hq])
  exact scomp_ok (ds := pairUp (sys.map pairD) (w.map D.int)) (by simp [zipG, seqD, intsD, sysD]) (by simp [plainAt]) (pu_len hs) (by simp [wipeE]) (by rw [pair_zip4]; exact e) (by simp [backE])
theorem bturn {sys : Sy} {w : List Int} {m p : Nat} (hs : sys.length ≤ 1000) (hl : ∀ q ∈ sys, q.2.length = m) (hp : p < m) (hM : ∀ y ∈ w, ∀ q ∈ sys, ∀ p, CMulA y (q.2.getD p 0)) :
    t0_bars [.fro (sysD sys), .fro (intsD w), .fro (.int (p : Nat)), .no, .no, .no] = .ok (if (dot w (colD sys p) == 0) = true then .nx else .rt (.bl false)) [.fro (sysD sys), .fro (intsD w), .fro (.int (p : Nat)), .no, .no, .no] := by
  have hc := comp_gen (enc := fun p : Int × (Bool × List Int) => D.arg [pairD p.2, .int p.1]) (F := fun q : Int × (Bool × List Int) => D.int (q.1 * q.2.2.getD p 0)) (vs := [3, 4, 5]) (g := gTup' 2 (gC (gTup' 2 (gC (gSet 4) (gC (gSet 5) gN))) (gC (gSet 3) gN))) (s := sOps gMul (b2 (sLoc 3) (sVal (sOps gIdx (b2 (sLoc 5) (sLoc 2)))))) (ρ := [.fro (sysD sys), .fro (intsD w), .fro (.int (p : Nat)), .no, .no, .no]) (xs := w.zip sys)
    (fun q hq => by
      have mz := List.of_mem_zip hq
      have m1 : gMul [.int q.1, .int (q.2.2.getD p 0)] = some (.int (q.1 * q.2.2.getD p 0)) := if_pos (hM _ mz.1 _ mz.2 p)
      have i2 := idx_ints (f := q.2.2) (p := p) (by rw [hl _ mz.2]; exact hp)
      refine ⟨[.fro (sysD sys), .fro (intsD w), .fro (.int (p : Nat)), .fro (.int q.1), .fro (.bl q.2.1), .fro (intsD q.2.2)], [.fro (sysD sys), .fro (intsD w), .fro (.int (p : Nat)), .fro (.int q.1), .fro (.bl q.2.1), .fro (intsD q.2.2)], bg, ?_, by simp [plainAt], by simp [wipeE]⟩
      show _ = R.ok (D.int (q.1 * q.2.2.getD p 0)) _
      generalize q.2.2.getD p 0 = v at m1 i2 ⊢
      simp [i2, m1])
  have e0 : c2_bars [.fro (sysD sys), .fro (intsD w), .fro (.int (p : Nat)), .no, .no, .no] = .ok (.lst ((w.zip sys).map fun q => .int (q.1 * q.2.2.getD p 0))) [.fro (sysD sys), .fro (intsD w), .fro (.int (p : Nat)), .no, .no, .no] :=
    scomp_ok (ds := pairUp (sys.map pairD) (w.map D.int)) (by simp [zipG, seqD, intsD, sysD]) (by simp [plainAt]) (pu_len hs) (by simp [wipeE]) (by rw [pair_zip4]; exact hc) (by simp [backE])
  have es : gSum [.lst ((w.zip sys).map fun q => .int (q.1 * q.2.2.getD p 0))] = some (.int (dot w (colD sys p))) := by
    show (intsOf _).map _ = _
    rw [intsOf_map (fun q : Int × (Bool × List Int) => q.1 * q.2.2.getD p 0), Option.map_some, zip_col]
  have en : gNe [.int (dot w (colD sys p)), .int 0] = some (.bl (!(dot w (colD sys p) == 0))) := rfl
  unfold t0_bars
  generalize (w.zip sys).map (fun q => D.int (q.1 * q.2.2.getD p 0)) = zs at e0 es
  generalize hv : (dot w (colD sys p) == 0) = v at *
  cases v <;> simp [e0, es, en]
theorem bloop {sys : Sy} {w : List Int} {m : Nat} (h1 : 1 ≤ sys.length) (hs : sys.length ≤ 1000) (hl : ∀ q ∈ sys, q.2.length = m) (hm : m ≤ 1000) (hM : ∀ y ∈ w, ∀ q ∈ sys, ∀ p, CMulA y (q.2.getD p 0)) :
    ∃ ρ', l0_bars [.fro (sysD sys), .fro (intsD w), .no, .no, .no, .no] = .ok (if barsZ sys m w = true then .nx else .rt (.bl false)) ρ' := by
  obtain ⟨q0, sys', rfl⟩ : ∃ q0 sys', sys = q0 :: sys' := by
    cases sys with
    | nil => simp at h1
    | cons a b => exact ⟨a, b, rfl⟩
  have l0 : q0.2.length = m := hl q0 List.mem_cons_self
  have i3 : gLen [intsD q0.2] = some (.int (m : Nat)) := by simp [gLen, intsD, l0]
  have i2 : gIdx [pairD q0, .int 1] = some (intsD q0.2) := rfl
  obtain ⟨ρ', e, _⟩ := for_chk (enc := fun p : Nat => D.int (p : Nat)) (p := fun p => dot w (colD (q0 :: sys') p) == 0) (I := fun ρ => ∃ c2 : Cell, Pln c2 ∧ ρ = [.fro (sysD (q0 :: sys')), .fro (intsD w), c2, .no, .no, .no]) (g := gSet 2) (s := t0_bars) (xs := List.range m) (ρ := [.fro (sysD (q0 :: sys')), .fro (intsD w), .no, .no, .no, .no])
    (fun p hp ρ ⟨c2, h2, hρ⟩ => by
      subst hρ
      exact ⟨_, _, h2.set rfl, bturn hs hl (List.mem_range.mp hp) hM, .fro (.int (p : Nat)), .f _, rfl⟩) ⟨.no, .n, rfl⟩
  refine ⟨ρ', ?_⟩
  unfold l0_bars sFor
  rw [rng1_it (n := m) (ρ' := [.fro (sysD (q0 :: sys')), .fro (intsD w), .no, .no, .no, .no]) (by simp [sys_idx, i2, i3]) hm, R.bind_ok, upn_rng]
  exact e
theorem bars_gen {C0 C1 : SE} {A : SS} {d : D} {ds : List D} {zs : D} {ρ' : Dt.Env} {n : Nat} {b0 b1 b2' : Bool} {ys : D} (ls : gLen [d] = some (.int (n : Nat))) (hn : ds.length = n) (e0 : C0 [.fro d, .fro (.tup ds), .no, .no, .no, .no] = .ok zs [.fro d, .fro (.tup ds), .no, .no, .no, .no]) (a0 : gAll [zs] = some (.bl b0))
    (e1 : b0 = true → C1 [.fro d, .fro (.tup ds), .no, .no, .no, .no] = .ok ys [.fro d, .fro (.tup ds), .no, .no, .no, .no]) (a1 : gAny [ys] = some (.bl b1)) (e2 : b0 = true → A [.fro d, .fro (.tup ds), .no, .no, .no, .no] = .ok (if b2' = true then .nx else .rt (.bl false)) ρ') :
    runP 6 2 (sSeq (sIfS (tOrS (tNotS (sTru (sVal (sIsi ["tuple"] (sLoc 1))))) (sTst (sOps gNe (b2 (sVal (sOps gLen (bCons (sLoc 1) bNil))) (sVal (sOps gLen (bCons (sLoc 0) bNil))))))) (sRet (sCst (.bl false))) sNx)
      (sSeq (sIfS (tNotS (sTru (sVal (sOps gAll (bCons (sVal C0) bNil))))) (sRet (sCst (.bl false))) sNx)
      (sSeq (sIfS (tNotS (sTru (sVal (sOps gAny (bCons (sVal C1) bNil))))) (sRet (sCst (.bl false))) sNx)
      (sSeq A (sRet (sCst (.bl true))))))) [d, .tup ds] = .ok (.bl (b0 && (b1 && b2'))) [] := by
  have lt : gLen [.tup ds] = some (.int (n : Nat)) := by rw [← hn]; rfl
  have nn : gNe [.int (n : Nat), .int (n : Nat)] = some (.bl false) := by simp [gNe, eqD_int]
  unfold runP
  cases b0
  · simp [isT, isTn, tyN, ls, lt, nn, e0, a0]
  · cases b1
    · simp [isT, isTn, tyN, ls, lt, nn, e0, a0, e1, a1]
    · cases b2' <;> simp [isT, isTn, tyN, ls, lt, nn, e0, a0, e1, a1, e2]
theorem bars_not {C0 C1 : SE} {A B : SS} {d z : D} {n : Nat} (ls : gLen [d] = some (.int (n : Nat))) (hz : (∃ ds, z = .tup ds ∧ ds.length ≠ n) ∨ isTo ["tuple"] z = some (.bl false)) :
    runP 6 2 (sSeq (sIfS (tOrS (tNotS (sTru (sVal (sIsi ["tuple"] (sLoc 1))))) (sTst (sOps gNe (b2 (sVal (sOps gLen (bCons (sLoc 1) bNil))) (sVal (sOps gLen (bCons (sLoc 0) bNil))))))) (sRet (sCst (.bl false))) sNx) A) [d, z] = .ok (.bl false) [] ∧
    runP 3 2 (sSeq (sIfS (tOrS (tNotS (sTru (sVal (sIsi ["tuple"] (sLoc 1))))) (sTst (sOps gNe (b2 (sVal (sOps gLen (bCons (sLoc 1) bNil))) (sVal (sOps gLen (bCons (sLoc 0) bNil))))))) (sRet (sCst (.bl false))) sNx) B) [d, z] = .ok (.bl false) [] := by
  rcases hz with ⟨ds, rfl, h⟩ | h
  · have nn : gNe [.int (ds.length : Nat), .int (n : Nat)] = some (.bl true) := by
      have : ((ds.length : Int) == (n : Int)) = false := by
        have : (ds.length : Int) ≠ n := by omega
        simpa using this
      simp [gNe, eqD_int, this]
    have lt : gLen [.tup ds] = some (.int (ds.length : Nat)) := rfl
    unfold runP
    simp [isT, isTn, tyN, ls, lt, nn]
  · unfold runP
    simp [h]
theorem tup_or (d : D) {k n : Nat} (h : Ok k n d) : (∃ ds, d = .tup ds) ∨ isTo ["tuple"] d = some (.bl false) := by
  cases d with
  | tup ds => exact .inl ⟨ds, rfl⟩
  | non => exact .inr (by simp [isT, isTn, tyN])
  | bl b => exact .inr (by simp [isT, isTn, tyN])
  | int b => exact .inr (by simp [isT, isTn, tyN])
  | str b => exact .inr (by simp [isT, isTn, tyN])
  | lst b => exact .inr (by simp [isT, isTn, tyN])
  | _ => cases n <;> exact h.elim
/-- small forms -/
def SmallF (sys : Sy) : Prop := ∀ q ∈ sys, ∀ y ∈ q.2, -1000 ≤ y ∧ y ≤ 1000
theorem smallf_mul {sys : Sy} (h : SmallF sys) (y : Int) {q : Bool × List Int} (hq : q ∈ sys) (p : Nat) : CMulA y (q.2.getD p 0) := by
  refine .inl (.inr ?_)
  rw [List.getD_eq_getElem?_getD]
  cases e : q.2[p]? with
  | none => show _ < (0 : Int) ∧ _; decide
  | some x =>
    have := h q hq x (List.mem_of_getElem? e)
    show -(2 ^ 64) < x ∧ x < 2 ^ 64
    omega
theorem pbars_ok {o m : Nat} {sys : Sy} {d : D} {k n : Nat} (hv : SysV o m sys) (hF : SmallF sys) (h : Ok k n d) : m_bars [sysD sys, d] = .ok (.bl (awB sys m d)) [] := by
  obtain ⟨m1, m4⟩ := hv.m1
  obtain ⟨n1, _, n24⟩ := hv.few
  rcases tup_or d h with ⟨ds, rfl⟩ | hz
  · obtain ⟨n, rfl⟩ : ∃ j, n = j + 1 := by
      cases n with
      | zero => exact h.elim
      | succ n => exact ⟨n, rfl⟩
    by_cases hl : ds.length = sys.length
    · have e0 := bc0 (d := sysD sys) (ds := ds) (c2 := .no) (c4 := .no) (c5 := .no) (ok_tup.mp h).2 (by omega)
      have eq : awB sys m (.tup ds) = (ds.all natI && barsB sys m (ds.map fun d => match d with | .int i => i | _ => 0)) := by simp [awB, hl]
      rw [eq]
      cases hb : ds.all natI with
      | false =>
        have := bars_gen (C0 := c0_bars) (C1 := c1_bars) (A := l0_bars) (d := sysD sys) (ds := ds) (n := sys.length) (b0 := false) (b1 := true) (b2' := true) (ys := .lst [.bl true]) (ρ' := []) (len_sys sys) hl e0 (by rw [allM natI, hb]) (fun z => nomatch z) rfl (fun z => nomatch z)
        exact this
      | true =>
        obtain ⟨w, rfl, hw⟩ := nat_ints hb
        rw [back_ints]
        obtain ⟨ρ', el⟩ := bloop (sys := sys) (w := w) (m := m) n1 (by omega) hv.len (by omega) (fun y _ q hq p => smallf_mul hF y hq p)
        have e1 := bc1 (sys := sys) (w := w) (c2 := .no) (by omega)
        have := bars_gen (C0 := c0_bars) (C1 := c1_bars) (A := l0_bars) (d := sysD sys) (ds := w.map .int) (n := sys.length) (b0 := true) (b1 := barsS sys w) (b2' := barsZ sys m w) (ρ' := ρ') (len_sys sys) hl e0 (by rw [allM natI, hb]) (fun _ => e1) (anyM _ _) (fun _ => el)
        rw [Bool.and_comm (barsS sys w)] at this
        exact this
    · have eq : awB sys m (.tup ds) = false := by simp [awB, hl]
      rw [eq]
      exact (bars_not (C0 := c0_bars) (C1 := c1_bars) (B := sNx) (len_sys sys) (.inl ⟨ds, rfl, hl⟩)).1
  · have eq : awB sys m d = false := by
      cases d with
      | tup ds => simp [isT, isTn, tyN] at hz
      | _ => rfl
    rw [eq]
    exact (bars_not (C0 := c0_bars) (C1 := c1_bars) (B := sNx) (len_sys sys) (.inr hz)).1
theorem paw_ok {o m : Nat} {sys : Sy} {d : D} {k n : Nat} (hv : SysV o m sys) (hF : SmallF sys) (h : Ok k n d) : m_are_weights [sysD sys, d] = .ok (.bl (awB sys m d)) [] := by
  show runP 2 2 b_are_weights _ = _
  unfold runP b_are_weights
  simp [looked_ok hv, pbars_ok hv hF h]
/-! ### the law's -/
theorem law_c0 {d : D} {ds : List D} {k n : Nat} (ho : ∀ x ∈ ds, Ok k n x) (hl : ds.length ≤ 1000) : c0_L_are_weights [.fro d, .fro (.tup ds), .no] = .ok (.lst (ds.filter fun d => !natI d)) [.fro d, .fro (.tup ds), .no] := by
  have e := comp_filt (enc := fun x : D => x) (F := fun x : D => x) (P := fun d => !natI d) (vs := [2]) (g := gSet 2) (t := tOrS (tNotS (sTru (sVal (sCallP 1 (m_L_whole) (sCons (sVar 2) sNil))))) (sTst (sOps gLt (b2 (sLoc 2) (sVal (sCst (.int 0))))))) (s := sVar 2) (ρ := [.fro d, .fro (.tup ds), .no]) (xs := ds)
    (fun x hx => by
      refine ⟨[.fro d, .fro (.tup ds), .fro x], [.fro d, .fro (.tup ds), .fro x], by simp, ?_, by simp [plainAt], by simp [wipeE], [.fro d, .fro (.tup ds), .fro x], by simp, by simp [plainAt], by simp [wipeE]⟩
      have e := whole_ok (ho x hx)
      cases x with
      | int i =>
        by_cases z : i < 0
        · have : ¬ 0 ≤ i := by omega
          simp [e, isI, natI, gLt, lexI, z, this]
        · have : 0 ≤ i := by omega
          simp [e, isI, natI, gLt, lexI, z, this]
      | _ => simp [e, isI, natI])
  rw [List.map_id'' (fun _ => rfl), List.map_id'' (fun _ => rfl)] at e
  exact scomp_ok (ds := ds) (by simp [itemsD]) (by simp [plainAt]) (line_pos (by omega)) (by simp [wipeE]) e (by simp [backE])
theorem law_gen1 {C0 : SE} {br : List D → FR} {d : D} {ds zs : List D} {n : Nat} {b b1 : Bool} (ls : gLen [d] = some (.int (n : Nat))) (hn : ds.length = n) (e0 : C0 [.fro d, .fro (.tup ds), .no] = .ok (.lst zs) [.fro d, .fro (.tup ds), .no]) (en : gNe [.lst zs, .lst []] = some (.bl (!b))) (eb : b = true → br [d, .tup ds] = .ok (.bl b1) []) :
    runP 3 2 (sSeq (sIfS (tOrS (tNotS (sTru (sVal (sIsi ["tuple"] (sLoc 1))))) (sTst (sOps gNe (b2 (sVal (sOps gLen (bCons (sLoc 1) bNil))) (sVal (sOps gLen (bCons (sLoc 0) bNil))))))) (sRet (sCst (.bl false))) sNx)
      (sSeq (sIfS (sTst (sOps gNe (b2 (sVal C0) (sVal (sLst sNil))))) (sRet (sCst (.bl false))) sNx)
      (sRet (sCallP 2 br (sCons (sVar 0) (sCons (sVar 1) sNil)))))) [d, .tup ds] = .ok (.bl (b && b1)) [] := by
  have lt : gLen [.tup ds] = some (.int (n : Nat)) := by rw [← hn]; rfl
  have nn : gNe [.int (n : Nat), .int (n : Nat)] = some (.bl false) := by simp [gNe, eqD_int]
  have z : 0 ≤ sizeLine := Nat.zero_le _
  unfold runP
  cases b
  · simp [isT, isTn, tyN, ls, lt, nn, e0, en]
  · simp [isT, isTn, tyN, ls, lt, nn, e0, en, eb]
theorem law_aw {o m : Nat} {sys : Sy} {d : D} {k n : Nat} (hv : SysV o m sys) (hF : SmallF sys) (h : Ok k n d) (hk : k ≤ 1000) (hn : n ≤ 50) : m_L_are_weights [sysD sys, d] = .ok (.bl (awB sys m d)) [] := by
  obtain ⟨m1, m4⟩ := hv.m1
  obtain ⟨n1, _, n24⟩ := hv.few
  rcases tup_or d h with ⟨ds, rfl⟩ | hz
  · obtain ⟨n, rfl⟩ : ∃ j, n = j + 1 := by
      cases n with
      | zero => exact h.elim
      | succ n => exact ⟨n, rfl⟩
    obtain ⟨hk1, hk2⟩ := ok_tup.mp h
    by_cases hl : ds.length = sys.length
    · have e0 := law_c0 (d := sysD sys) (ds := ds) hk2 (by omega)
      have en : gNe [.lst (ds.filter fun d => !natI d), .lst []] = some (.bl (!ds.all natI)) := by
        show (eqD _ _).map _ = _
        rw [lst_ne (m := k) (n := n) (fun d hd => hk2 d (List.mem_filter.mp hd).1) (Nat.le_trans (List.length_filter_le _ _) hk1) (by omega), filt_empty]
        rfl
      have eq : awB sys m (.tup ds) = (ds.all natI && barsB sys m (ds.map fun d => match d with | .int i => i | _ => 0)) := by simp [awB, hl]
      rw [eq]
      refine law_gen1 (C0 := c0_L_are_weights) (br := m_L_bars) (len_sys sys) hl e0 en fun hb => ?_
      obtain ⟨w, rfl, hw⟩ := nat_ints hb
      rw [back_ints]
      exact lbars_ok n1 hv.len (by omega) (fun y _ q hq p => smallf_mul hF y hq p) (by simp at hl; omega)
    · have eq : awB sys m (.tup ds) = false := by simp [awB, hl]
      rw [eq]
      exact (bars_not (C0 := c0_bars) (C1 := c1_bars) (A := sNx) (len_sys sys) (.inl ⟨ds, rfl, hl⟩)).2
  · have eq : awB sys m d = false := by
      cases d with
      | tup ds => simp [isT, isTn, tyN] at hz
      | _ => rfl
    rw [eq]
    exact (bars_not (C0 := c0_bars) (C1 := c1_bars) (A := sNx) (len_sys sys) (.inr hz)).2
theorem aw_true {sys : Sy} {m : Nat} {w : List Int} (h : Bars sys m w) : awB sys m (intsD w) = true := by
  show (decide ((w.map D.int).length = sys.length) && ((w.map D.int).all natI && barsB sys m _)) = true
  rw [back_ints, bars_true h, Bool.and_true, Bool.and_eq_true]
  refine ⟨by simp [h.len], ?_⟩
  rw [List.all_eq_true]
  intro d hd
  obtain ⟨y, hy, rfl⟩ := List.mem_map.mp hd
  simpa [natI] using h.nn y hy
end Lw

namespace Lw
open Dt PySem
abbrev E8 (s t tu : D) (c3 c4 c5 c6 c7 c8 c9 c10 : Cell) : Dt.Env := [.fro s, .own t, .fro tu, c3, c4, c5, c6, c7, c8, c9, c10]
theorem asg_set' {i : Nat} {s : SE} {ρ ρ1 : Dt.Env} {d : D} {c : Cell} (e : s ρ = .ok d ρ1) (hc : ρ1[i]? = some c) (hp : ∀ d, c ≠ .io d) : sAsg (gSet i) s ρ = .ok .nx (ρ1.set i (.fro d)) := by
  rw [ev_asg, e, R.bind_ok, gSet_ne hc hp, R.bind_ok]
theorem like_bool (a : Bool) : m_L_like 40 [.bl a, .bl a] = .ok (.bl true) [] := by
  show runP 3 2 (b_L_like (m_L_like 39)) _ = _
  unfold runP b_L_like
  simp [isT, isTn, tyN, gEq, D.truth]
theorem isn_ints (x : List Int) : gIsNot [intsD x, .non] = some (.bl true) := rfl
theorem isn_non : gIsNot [.non, .non] = some (.bl false) := rfl
theorem tup_of (zs : List D) : gTuple [.lst zs] = some (.tup zs) := rfl
def negL (f : List Int) : List Int := f.map fun i => 0 - i
theorem ok_ints {w : List Int} {k n : Nat} (h : w.length ≤ k) : Ok k (n + 1) (.tup (w.map .int)) := ok_tup.mpr ⟨by simpa using h, fun d hd => by
  obtain ⟨i, _, rfl⟩ := List.mem_map.mp hd
  exact ok_int⟩
theorem ok_intsL {w : List Int} {k n : Nat} (h : w.length ≤ k) : Ok k (n + 1) (.lst (w.map .int)) := ok_lst.mpr ⟨by simpa using h, fun d hd => by
  obtain ⟨i, _, rfl⟩ := List.mem_map.mp hd
  exact ok_int⟩
theorem rep_ints (i : Int) : ∀ n : Nat, (List.replicate n [D.int i]).flatten = (List.replicate n i).map .int
  | 0 => rfl
  | n + 1 => by rw [List.replicate_succ, List.flatten_cons, rep_ints i n, List.replicate_succ]; rfl
theorem mul_rep (i : Int) {n : Nat} (h1 : 1 ≤ n) (h2 : n ≤ 1000) : gMul [.tup [.int i], .int (n : Nat)] = some (intsD (List.replicate n i)) := by
  show (if _ then some (D.tup (List.replicate (n : Int).toNat [D.int i]).flatten) else none) = _
  rw [if_pos ⟨rfl, by omega, by omega, by simp⟩, show (n : Int).toNat = n by omega, rep_ints]
  rfl
section
variable {s t tu : D} {c3 c4 c5 c6 c7 c8 : Cell}
theorem of_sys {t : D} {sys : Sy} (h : TapeOk t) (h0 : 1 ≤ sys.length) (h1 : sys.length ≤ 1000) : ∃ q t', q ∈ sys ∧ m_L_of [t, sysD sys] = .ok (pairD q) [t'] ∧ TapeOk t' := by
  obtain ⟨k, t', e, h', k0, k1⟩ := draw_lit (sys.length : Nat) h (by omega) (by omega)
  obtain ⟨n, rfl⟩ : ∃ n : Nat, k = n := ⟨k.toNat, by omega⟩
  have hn : n < sys.length := by omega
  refine ⟨sys[n], t', List.getElem_mem hn, ?_, h'⟩
  have ei : gIdx [sysD sys, .int (n : Nat)] = some (pairD sys[n]) := by
    show L2.atI (sys.map pairD) (n : Int) = _
    rw [atI_k (by simpa using hn)]
    simp
  show runI 2 2 b_L_of _ = _
  unfold runI b_L_of
  simp [len_sys, e, ei, lastIo]
theorem negM (f : List Int) : (negL f).map D.int = f.map fun i => .int (0 - i) := by unfold negL; rw [List.map_map]; rfl
theorem lc0 {q : Bool × List Int} (hl : q.2.length ≤ 1000) : c0_law (E8 s t tu c3 c4 (.fro (pairD q)) c6 c7 c8 .no .no) = .ok (.lst ((negL q.2).map .int)) (E8 s t tu c3 c4 (.fro (pairD q)) c6 c7 c8 .no .no) := by
  have e := comp_gen (enc := D.int) (F := fun i : Int => D.int (0 - i)) (vs := [10]) (g := gSet 10) (s := sOps gSub (b2 (sVal (sCst (.int 0))) (sLoc 10))) (ρ := E8 s t tu c3 c4 (.fro (pairD q)) c6 c7 c8 .no .no) (xs := q.2)
    (fun i _ => ⟨E8 s t tu c3 c4 (.fro (pairD q)) c6 c7 c8 .no (.fro (.int i)), E8 s t tu c3 c4 (.fro (pairD q)) c6 c7 c8 .no (.fro (.int i)), by simp [E8], by simp [E8, gSub, gI], by simp [plainAt, E8], by simp [wipeE, E8]⟩)
  have i1 : gIdx [pairD q, .int 1] = some (intsD q.2) := rfl
  rw [negM]
  exact scomp_ok (ds := q.2.map .int) (by simp [itemsD, intsD, i1, E8]) (by simp [plainAt, E8]) (line_pos (by simp; omega)) (by simp [wipeE, E8]) e (by simp [backE, E8])
theorem lc1 {sys : Sy} (h : TapeOk t) (hl : sys.length ≤ 30) : ∃ (w : List Int) (t' : D), c1_law (E8 s t tu c3 (.fro (sysD sys)) c5 c6 c7 c8 .no .no) = .ok (.lst (w.map .int)) (E8 s t' tu c3 (.fro (sysD sys)) c5 c6 c7 c8 .no .no) ∧ TapeOk t' ∧ w.length = sys.length := by
  have hc := comp_inv (I := fun ρ => ∃ t, TapeOk t ∧ ρ = E8 s t tu c3 (.fro (sysD sys)) c5 c6 c7 c8 .no .no) (P := fun d => ∃ i, d = .int i ∧ True) (vs := [9]) (g := gSet 9) (t := tT1)
    (s := sCallI 1 2 (m_L_draw) (sCons (sCst (.int 3)) sNil)) (ds := sys.map pairD) (ρ := E8 s t tu c3 (.fro (sysD sys)) c5 c6 c7 c8 .no .no)
    (fun d hd ρ ⟨t, ht, hρ⟩ => by
      subst hρ
      obtain ⟨z, t2, e2, h2, b1, b2⟩ := draw_lit 3 ht
      refine ⟨E8 s t tu c3 (.fro (sysD sys)) c5 c6 c7 c8 (.fro d) .no, _, E8 s t2 tu c3 (.fro (sysD sys)) c5 c6 c7 c8 (.fro d) .no, .int z, by simp [E8], rfl, ?_, by simp [plainAt, E8], ⟨t2, h2, by simp [wipeE, E8]⟩, ⟨_, rfl, trivial⟩⟩
      simp [e2, E8]) ⟨t, h, rfl⟩
  obtain ⟨zs, ρ', e2, ⟨t2, h2, rfl⟩, hl2, hz⟩ := hc
  obtain ⟨w, rfl, _⟩ := ints_of hz
  refine ⟨w, t2, ?_, h2, by simpa using hl2⟩
  exact scomp_io (ds := sys.map pairD) (ρ := E8 s t tu c3 (.fro (sysD sys)) c5 c6 c7 c8 .no .no) (by simp [itemsD, sysD, E8]) (by simp [plainAt, E8]) (line_pos (by simp; omega)) (by simp [wipeE, E8]) e2 (by simp [backE, E8])
theorem lc2 {w : List Int} (hl : w.length ≤ 1000) : c2_law (E8 s t tu c3 c4 c5 (.fro (intsD w)) c7 c8 .no .no) = .ok (.lst ((w.map (2 * ·)).map .int)) (E8 s t tu c3 c4 c5 (.fro (intsD w)) c7 c8 .no .no) := by
  have e := comp_gen (enc := D.int) (F := fun i : Int => D.int (2 * i)) (vs := [10]) (g := gSet 10) (s := sOps gMul (b2 (sVal (sCst (.int 2))) (sLoc 10))) (ρ := E8 s t tu c3 c4 c5 (.fro (intsD w)) c7 c8 .no .no) (xs := w)
    (fun i _ => ⟨E8 s t tu c3 c4 c5 (.fro (intsD w)) c7 c8 .no (.fro (.int i)), E8 s t tu c3 c4 c5 (.fro (intsD w)) c7 c8 .no (.fro (.int i)), by simp [E8], by simp [E8, gMul, mulA_l 2 i (by decide) (by decide)], by simp [plainAt, E8], by simp [wipeE, E8]⟩)
  rw [List.map_map]
  exact scomp_ok (ds := w.map .int) (by simp [itemsD, intsD, E8]) (by simp [plainAt, E8]) (line_pos (by simp; omega)) (by simp [wipeE, E8]) e (by simp [backE, E8])
theorem lc3 {w : List Int} (hl : w.length ≤ 1000) : c3_law (E8 s t tu c3 c4 c5 (.fro (intsD w)) c7 c8 .no .no) = .ok (.lst ((negL w).map .int)) (E8 s t tu c3 c4 c5 (.fro (intsD w)) c7 c8 .no .no) := by
  have e := comp_gen (enc := D.int) (F := fun i : Int => D.int (0 - i)) (vs := [10]) (g := gSet 10) (s := sOps gSub (b2 (sVal (sCst (.int 0))) (sLoc 10))) (ρ := E8 s t tu c3 c4 c5 (.fro (intsD w)) c7 c8 .no .no) (xs := w)
    (fun i _ => ⟨E8 s t tu c3 c4 c5 (.fro (intsD w)) c7 c8 .no (.fro (.int i)), E8 s t tu c3 c4 c5 (.fro (intsD w)) c7 c8 .no (.fro (.int i)), by simp [E8], by simp [E8, gSub, gI], by simp [plainAt, E8], by simp [wipeE, E8]⟩)
  rw [negM]
  exact scomp_ok (ds := w.map .int) (by simp [itemsD, intsD, E8]) (by simp [plainAt, E8]) (line_pos (by simp; omega)) (by simp [wipeE, E8]) e (by simp [backE, E8])
theorem noS_ints {w : List Int} {n : Nat} : NoS (n + 1) (intsD w) := fun d hd => by
  obtain ⟨i, _, rfl⟩ := List.mem_map.mp hd
  cases n <;> trivial
theorem lc4 {w : List Int} (h : TapeOk t) (hl : w.length ≤ 24) : ∃ (zs : List D) (t' : D), c4_law (E8 s t tu c3 c4 c5 (.fro (intsD w)) c7 c8 .no .no) = .ok (.lst zs) (E8 s t' tu c3 c4 c5 (.fro (intsD w)) c7 c8 .no .no) ∧ TapeOk t' ∧ zs.length = 5 ∧ ∀ z ∈ zs, Ok 40 12 z := by
  have hc := comp_inv (I := fun ρ => ∃ t, TapeOk t ∧ ρ = E8 s t tu c3 c4 c5 (.fro (intsD w)) c7 c8 .no .no) (P := fun d => Ok 40 12 d) (vs := [10]) (g := gSet 10) (t := tT1)
    (s := sCallI 1 2 (m_L_spoilt 40) (sCons (sVar 6) sNil)) (ds := upto 0 5) (ρ := E8 s t tu c3 c4 c5 (.fro (intsD w)) c7 c8 .no .no)
    (fun d hd ρ ⟨t, ht, hρ⟩ => by
      subst hρ
      obtain ⟨z, t2, e2, h2, o2⟩ := spoilt_ok (m := 24) (by decide) 2 40 (by decide) ⟨ok_ints hl, noS_ints⟩ ht
      refine ⟨E8 s t tu c3 c4 c5 (.fro (intsD w)) c7 c8 .no (.fro d), _, E8 s t2 tu c3 c4 c5 (.fro (intsD w)) c7 c8 .no (.fro d), z, by simp [E8], rfl, ?_, by simp [plainAt, E8], ⟨t2, h2, by simp [wipeE, E8]⟩, o2.mono (by decide) (by decide)⟩
      have e2' : m_L_spoilt 40 [t, intsD w] = .ok z [t2] := e2
      simp [e2', E8]) ⟨t, h, rfl⟩
  obtain ⟨zs, ρ', e2, ⟨t2, h2, rfl⟩, hl2, hz⟩ := hc
  refine ⟨zs, t2, ?_, h2, by rw [hl2]; rfl, hz⟩
  exact scomp_io (ds := upto 0 5) (ρ := E8 s t tu c3 c4 c5 (.fro (intsD w)) c7 c8 .no .no) (by rw [show (5 : Int) = ((5 : Nat) : Int) from rfl]; exact rng1_it (by simp [E8]) (by decide)) (by simp [plainAt, E8]) (line_pos (by decide)) (by simp [wipeE, E8]) e2 (by simp [backE, E8])
theorem lloop {m : Nat} {sys : Sy} {ds : List D} (hv : SysV 0 m sys) (hF : SmallF sys) (hd : ∀ d ∈ ds, Ok 40 12 d) (hl : ds.length ≤ 1000) (h7 : c7 = .own (.lst ds) ∨ c7 = .fro (.lst ds)) (h8 : Pln c8) :
    ∃ d8, l0_law (E8 s t tu c3 (.fro (sysD sys)) c5 c6 c7 c8 .no .no) = .ok .nx (E8 s t tu c3 (.fro (sysD sys)) c5 c6 (.fro (.lst ds)) d8 .no .no) ∧ Pln d8 := by
  have hc := for_inv (I := fun ρ => ∃ c8, Pln c8 ∧ ρ = E8 s t tu c3 (.fro (sysD sys)) c5 c6 (.fro (.lst ds)) c8 .no .no) (g := gSet 8) (s := t0_law) (ds := ds) (ρ := E8 s t tu c3 (.fro (sysD sys)) c5 c6 (.fro (.lst ds)) c8 .no .no)
    (fun d hdm ρ ⟨c8, h8, hρ⟩ => by
      subst hρ
      have e1 := paw_ok hv hF (hd d hdm)
      have e2 := law_aw hv hF (hd d hdm) (by decide) (by decide)
      refine ⟨_, E8 s t tu c3 (.fro (sysD sys)) c5 c6 (.fro (.lst ds)) (.fro d) .no .no, .nx, h8.set rfl, ?_, .inl rfl, .fro d, .f _, rfl⟩
      show t0_law (E8 s t tu c3 (.fro (sysD sys)) c5 c6 (.fro (.lst ds)) (.fro d) .no .no) = _
      unfold t0_law
      simp [E8, e1, e2, like_bool]) ⟨c8, h8, rfl⟩
  obtain ⟨ρ', e, d8, k8, rfl⟩ := hc
  refine ⟨d8, ?_, k8⟩
  unfold l0_law sFor
  have : iAny (sVar 7) (E8 s t tu c3 (.fro (sysD sys)) c5 c6 c7 c8 .no .no) = .ok ds (E8 s t tu c3 (.fro (sysD sys)) c5 c6 (.fro (.lst ds)) c8 .no .no) := by
    rcases h7 with rfl | rfl <;> simp [E8, itemsD]
  rw [this, R.bind_ok]
  exact e
theorem cut_mem {xs : List D} {lo hi : Option Int} {d : D} (h : d ∈ cutD xs lo hi) : d ∈ xs := List.mem_of_mem_drop (List.mem_of_mem_take h)
theorem cut_len {xs : List D} {lo hi : Option Int} : (cutD xs lo hi).length ≤ xs.length := by
  unfold cutD
  rw [List.length_take, List.length_drop]
  omega
theorem lu0 {m : Nat} {sys : Sy} {w : List Int} {ds : List D} (h : TapeOk t) (hv : SysV 0 m sys) (hF : SmallF sys) (hb : Bars sys m w) (hd : ∀ d ∈ ds, Ok 40 12 d) (hl : ds.length ≤ 20) :
    ∃ ds' t', u0_law (E8 s t tu c3 (.fro (sysD sys)) c5 (.fro (intsD w)) (.own (.lst ds)) c8 .no .no) = .ok .nx (E8 s t' tu c3 (.fro (sysD sys)) c5 (.fro (intsD w)) (.fro (.lst ds')) c8 .no .no) ∧ TapeOk t' ∧ (∀ d ∈ ds', Ok 40 12 d) ∧ ds'.length ≤ 100 := by
  have wl : w.length ≤ 24 := by rw [hb.len]; exact hv.few.2.2
  have e2 := lc2 (s := s) (t := t) (tu := tu) (c3 := c3) (c4 := .fro (sysD sys)) (c5 := c5) (c7 := .own (.lst ds)) (c8 := c8) (w := w) (by omega)
  have hw1 : w.length + 1 ≤ sizeLine := line_pos (by omega)
  have l1 : ds.length + 4 ≤ sizeLine := line_pos (by omega)
  have add0 : gAdd [intsD w, .tup [.int 0]] = some (intsD (w ++ [0])) := by
    show (if (w.map D.int).length + [D.int 0].length ≤ sizeLine then _ else _) = _
    rw [if_pos (by simpa using hw1)]
    simp [intsD]
  have li : gList [intsD w] = some (.lst (w.map .int)) := rfl
  have line4 : (4 : Nat) ≤ sizeLine := line_pos (by decide)
  obtain ⟨d1, hd1⟩ : ∃ d1, d1 = ds ++ [intsD w, intsD (w.map (2 * ·)), .lst (w.map .int), intsD (w ++ [0])] := ⟨_, rfl⟩
  have q1 : sAsg (gSet 7) (sOps gAdd (b2 (sLoc 7) (sVal (sLst (sCons (sVar 6) (sCons (sOps gTuple (bCons (sVal c2_law) bNil)) (sCons (sOps gList (bCons (sLoc 6) bNil)) (sCons (sOps gAdd (b2 (sLoc 6) (sVal (sTup (sCons (sCst (.int 0)) sNil))))) sNil)))))))) (E8 s t tu c3 (.fro (sysD sys)) c5 (.fro (intsD w)) (.own (.lst ds)) c8 .no .no) = .ok .nx (E8 s t tu c3 (.fro (sysD sys)) c5 (.fro (intsD w)) (.fro (.lst d1)) c8 .no .no) := by
    refine asg_set' (c := .own (.lst ds)) (d := .lst d1) (ρ1 := E8 s t tu c3 (.fro (sysD sys)) c5 (.fro (intsD w)) (.own (.lst ds)) c8 .no .no) ?_ rfl (by simp)
    have et : gTuple [.lst ((w.map (2 * ·)).map .int)] = some (intsD (w.map (2 * ·))) := rfl
    unfold E8 at e2 ⊢
    have gd : gAdd [.lst ds, .lst [intsD w, intsD (w.map (2 * ·)), .lst (w.map .int), intsD (w ++ [0])]] = some (.lst d1) := by rw [hd1]; exact if_pos l1
    generalize (w.map (2 * ·)).map D.int = zs at e2 et
    generalize intsD (w.map (2 * ·)) = y at et gd
    generalize intsD (w ++ [0]) = y2 at add0 gd
    generalize D.lst (w.map D.int) = y3 at li gd
    simp [e2, et, li, add0, line1', line4, gd]
  have e3 := lc3 (s := s) (t := t) (tu := tu) (c3 := c3) (c4 := .fro (sysD sys)) (c5 := c5) (c7 := .fro (.lst d1)) (c8 := c8) (w := w) (by omega)
  have ld1 : d1.length = ds.length + 4 := by simp [hd1]
  obtain ⟨d2, hd2⟩ : ∃ d2, d2 = d1 ++ [intsD (negL w), .tup (cutD (w.map .int) none (some (-1))), .tup (w.map D.int).reverse] := ⟨_, rfl⟩
  have l2 : d1.length + 3 ≤ sizeLine := line_pos (by omega)
  have q2 : sAsg (gSet 7) (sOps gAdd (b2 (sLoc 7) (sVal (sLst (sCons (sOps gTuple (bCons (sVal c3_law) bNil)) (sCons (sSlice (sLoc 6) sPn (sPe (sOps gNeg (b1 (sVal (sCst (.int 1))))))) (sCons (sRevE (sLoc 6)) sNil))))))) (E8 s t tu c3 (.fro (sysD sys)) c5 (.fro (intsD w)) (.fro (.lst d1)) c8 .no .no) = .ok .nx (E8 s t tu c3 (.fro (sysD sys)) c5 (.fro (intsD w)) (.fro (.lst d2)) c8 .no .no) := by
    refine asg_set' (c := .fro (.lst d1)) (d := .lst d2) (ρ1 := E8 s t tu c3 (.fro (sysD sys)) c5 (.fro (intsD w)) (.fro (.lst d1)) c8 .no .no) ?_ rfl (by simp)
    have et : gTuple [.lst ((negL w).map .int)] = some (intsD (negL w)) := rfl
    have es : sliceD (intsD w) none (some (-1)) = some (.tup (cutD (w.map .int) none (some (-1)))) := rfl
    have er : sRevE (sLoc 6) (E8 s t tu c3 (.fro (sysD sys)) c5 (.fro (intsD w)) (.fro (.lst d1)) c8 .no .no) = .ok (.tup (w.map D.int).reverse) (E8 s t tu c3 (.fro (sysD sys)) c5 (.fro (intsD w)) (.fro (.lst d1)) c8 .no .no) := by simp [E8, intsD]
    unfold E8 at e3 er ⊢
    have gd : gAdd [.lst d1, .lst [intsD (negL w), .tup (cutD (w.map .int) none (some (-1))), .tup (w.map D.int).reverse]] = some (.lst d2) := by rw [hd2]; exact if_pos l2
    generalize (negL w).map D.int = zs at e3 et
    generalize (w.map D.int).reverse = rv at er gd
    generalize intsD (negL w) = y at et gd
    generalize D.tup (cutD (w.map .int) none (some (-1))) = y2 at es gd
    simp [-ev_revE, e3, et, es, er, gNeg, line3, gd]
  obtain ⟨zs, t', e4, h', lz, hz⟩ := lc4 (s := s) (tu := tu) (c3 := c3) (c4 := .fro (sysD sys)) (c5 := c5) (c7 := .fro (.lst d2)) (c8 := c8) (w := w) h wl
  have ld2 : d2.length = ds.length + 7 := by simp [hd2, ld1]
  have q3 : sAsg (gSet 7) (sOps gAdd (b2 (sLoc 7) (sVal c4_law))) (E8 s t tu c3 (.fro (sysD sys)) c5 (.fro (intsD w)) (.fro (.lst d2)) c8 .no .no) = .ok .nx (E8 s t' tu c3 (.fro (sysD sys)) c5 (.fro (intsD w)) (.fro (.lst (d2 ++ zs))) c8 .no .no) := by
    refine asg_set' (c := .fro (.lst d2)) (d := .lst (d2 ++ zs)) (ρ1 := E8 s t' tu c3 (.fro (sysD sys)) c5 (.fro (intsD w)) (.fro (.lst d2)) c8 .no .no) ?_ rfl (by simp)
    have gd : gAdd [.lst d2, .lst zs] = some (.lst (d2 ++ zs)) := if_pos (line_pos (by omega))
    unfold E8 at e4 ⊢
    simp [e4, gd]
  have ew := paw_ok hv hF (ok_ints (k := 24) (n := 1) wl)
  have ew' : m_are_weights [sysD sys, intsD w] = .ok (.bl true) [] := by rw [← aw_true hb]; exact ew
  have q4 : sIfS (tNotS (sTru (sVal (sCallP 2 (m_are_weights) (sCons (sVar 4) (sCons (sVar 6) sNil)))))) (sRet (sCst (.bl false))) sNx (E8 s t' tu c3 (.fro (sysD sys)) c5 (.fro (intsD w)) (.fro (.lst (d2 ++ zs))) c8 .no .no) = .ok .nx (E8 s t' tu c3 (.fro (sysD sys)) c5 (.fro (intsD w)) (.fro (.lst (d2 ++ zs))) c8 .no .no) := by
    simp [E8, ew']
  refine ⟨d2 ++ zs, t', ?_, h', fun d hdm => ?_, by rw [List.length_append]; omega⟩
  · unfold u0_law
    rw [seq_ok q1, seq_ok q2, seq_ok q3, q4]
  · rcases List.mem_append.mp hdm with hdm | hdm
    · rw [hd2] at hdm
      rcases List.mem_append.mp hdm with hdm | hdm
      · rw [hd1] at hdm
        rcases List.mem_append.mp hdm with hdm | hdm
        · exact hd d hdm
        · simp only [List.mem_cons, List.not_mem_nil, or_false] at hdm
          rcases hdm with rfl | rfl | rfl | rfl
          · exact ok_ints (by omega)
          · exact ok_ints (by simp; omega)
          · exact ok_intsL (by omega)
          · exact ok_ints (by simp; omega)
      · simp only [List.mem_cons, List.not_mem_nil, or_false] at hdm
        rcases hdm with rfl | rfl | rfl
        · exact ok_ints (by unfold negL; simp; omega)
        · refine ok_tup.mpr ⟨Nat.le_trans cut_len (by simp; omega), fun x hx => ?_⟩
          obtain ⟨i, _, rfl⟩ := List.mem_map.mp (cut_mem hx)
          exact ok_int
        · refine ok_tup.mpr ⟨by simp; omega, fun x hx => ?_⟩
          obtain ⟨i, _, rfl⟩ := List.mem_map.mp (List.mem_reverse.mp hx)
          exact ok_int
    · exact hz d hdm
end
end Lw

namespace Lw
open Dt PySem
section
variable {s t tu : D} {c3 c4 c5 c6 c7 c8 : Cell}
theorem pair_neg (q : Bool × List Int) : pairD (!q.1, negL q.2) = .tup [.bl (!q.1), .tup ((negL q.2).map .int)] := rfl
theorem sysD_app (sys : Sy) (q : Bool × List Int) (h : sys.length ≤ 1000) : gAdd [sysD sys, .tup [pairD q]] = some (sysD (sys ++ [q])) := by
  have : sys.length + 1 ≤ sizeLine := line_pos (by omega)
  show (if (sys.map pairD).length + [pairD q].length ≤ sizeLine then _ else _) = _
  rw [if_pos (by simpa using this)]
  simp [sysD]
theorem turn_ok (h : TapeOk t) (h3 : Pln c3) (h4 : Pln c4) (h5 : Pln c5) (h6 : Pln c6) (h7 : Pln c7) (h8 : Pln c8) :
    ∃ t' d3 d4 d5 d6 d7 d8, t1_law (E8 s t tu c3 c4 c5 c6 c7 c8 .no .no) = .ok .nx (E8 s t' tu d3 d4 d5 d6 d7 d8 .no .no) ∧ TapeOk t' ∧ Pln d3 ∧ Pln d4 ∧ Pln d5 ∧ Pln d6 ∧ Pln d7 ∧ Pln d8 := by
  obtain ⟨v, t1, e1, h1, v0, v3⟩ := draw_lit 3 h
  obtain ⟨m, hm⟩ : ∃ m : Nat, 1 + v = m := ⟨(1 + v).toNat, by omega⟩
  have q1 : sAsg (gSet 3) (sOps gAdd (b2 (sVal (sCst (.int 1))) (sVal (sCallI 1 2 (m_L_draw) (sCons (sCst (.int 3)) sNil))))) (E8 s t tu c3 c4 c5 c6 c7 c8 .no .no) = .ok .nx (E8 s t1 tu (.fro (.int (m : Nat))) c4 c5 c6 c7 c8 .no .no) :=
    asg_set (ρ1 := E8 s t1 tu c3 c4 c5 c6 c7 c8 .no .no) (by simp [E8, e1, gAdd, hm]) rfl h3
  obtain ⟨sys0, t2, e2, h2, dr, s1, s5⟩ := system_ok (m := m) (lim := 5) (w := 2) h1 (by decide) (by decide) (by omega) (by decide) (by decide)
  have q2 : sAsg (gSet 4) (sCallI 1 4 (m_L_system) (sCons (sVar 3) (sCons (sCst (.int 5)) (sCons (sCst (.int 2)) sNil)))) (E8 s t1 tu (.fro (.int (m : Nat))) c4 c5 c6 c7 c8 .no .no) = .ok .nx (E8 s t2 tu (.fro (.int (m : Nat))) (.fro (sysD sys0)) c5 c6 c7 c8 .no .no) := by
    have e2' : m_L_system [t1, .int (m : Nat), .int 5, .int 2] = .ok (sysD sys0) [t2] := e2
    exact asg_set (ρ1 := E8 s t2 tu (.fro (.int (m : Nat))) c4 c5 c6 c7 c8 .no .no) (by simp [E8, e2']) rfl h4
  obtain ⟨q, t3, hq, e3, h3'⟩ := of_sys h2 s1 (by omega)
  have q3 : sAsg (gSet 5) (sCallI 1 2 (m_L_of) (sCons (sVar 4) sNil)) (E8 s t2 tu (.fro (.int (m : Nat))) (.fro (sysD sys0)) c5 c6 c7 c8 .no .no) = .ok .nx (E8 s t3 tu (.fro (.int (m : Nat))) (.fro (sysD sys0)) (.fro (pairD q)) c6 c7 c8 .no .no) :=
    asg_set (ρ1 := E8 s t3 tu (.fro (.int (m : Nat))) (.fro (sysD sys0)) c5 c6 c7 c8 .no .no) (by simp [E8, e3]) rfl h5
  obtain ⟨k, t4, e4, h4', k0, k3⟩ := draw_lit 3 h3'
  have hql := dr.len q hq
  have nl : (negL q.2).length = m := by unfold negL; rw [List.length_map]; exact hql
  obtain ⟨sys, q4, hv, hF⟩ : ∃ sys, sIfS (sTst (sOps gGt (b2 (sVal (sCallI 1 2 (m_L_draw) (sCons (sCst (.int 3)) sNil))) (sVal (sCst (.int 0)))))) (sAsg (gSet 4) (sOps gAdd (b2 (sLoc 4) (sVal (sTup (sCons (sTup (sCons (sNot (sVal (sOps gIdx (b2 (sLoc 5) (sVal (sCst (.int 0))))))) (sCons (sOps gTuple (bCons (sVal c0_law) bNil)) sNil))) sNil)))))) sNx (E8 s t3 tu (.fro (.int (m : Nat))) (.fro (sysD sys0)) (.fro (pairD q)) c6 c7 c8 .no .no) =
      .ok .nx (E8 s t4 tu (.fro (.int (m : Nat))) (.fro (sysD sys)) (.fro (pairD q)) c6 c7 c8 .no .no) ∧ SysV 0 m sys ∧ SmallF sys := by
    have sf : SmallF sys0 := fun p hp y hy => by have := dr.small p hp y hy; omega
    by_cases z : 0 < k
    · refine ⟨sys0 ++ [(!q.1, negL q.2)], ?_, ?_, ?_⟩
      · rw [if_t (ρ1 := E8 s t4 tu (.fro (.int (m : Nat))) (.fro (sysD sys0)) (.fro (pairD q)) c6 c7 c8 .no .no) (by simp [E8, e4, gGt, lexI, z])]
        refine asg_set (d := sysD (sys0 ++ [(!q.1, negL q.2)])) (ρ1 := E8 s t4 tu (.fro (.int (m : Nat))) (.fro (sysD sys0)) (.fro (pairD q)) c6 c7 c8 .no .no) ?_ rfl (.f _)
        have el := lc0 (s := s) (t := t4) (tu := tu) (c3 := .fro (.int (m : Nat))) (c4 := .fro (sysD sys0)) (c6 := c6) (c7 := c7) (c8 := c8) (q := q) (by omega)
        have es := sysD_app sys0 (!q.1, negL q.2) (by omega)
        have i0 : gIdx [pairD q, .int 0] = some (.bl q.1) := rfl
        rw [pair_neg] at es
        unfold E8 at el ⊢
        generalize sysD (sys0 ++ [(!q.1, negL q.2)]) = y at es ⊢
        generalize (negL q.2).map D.int = zs at el es
        simp [i0, el, tup_of, line2, line1', es]
      · have sm : ∀ y ∈ negL q.2, -1000 ≤ y ∧ y ≤ 1000 := fun y hy => by
          obtain ⟨x, hx, rfl⟩ := List.mem_map.mp hy
          have := dr.small q hq x hx
          omega
        exact ⟨⟨by simp, by show (sys0 ++ [(!q.1, negL q.2)]).length ≤ 8; simp; omega, by simp; omega⟩, (fun p hp => by
          rcases List.mem_append.mp hp with hp | hp
          · exact dr.len p hp
          · rw [List.mem_singleton.mp hp]; exact nl), ⟨by omega, by omega⟩, (fun p hp y hy => by
          have p30 : (2 : Nat) ^ 30 = 1073741824 := by decide
          rcases List.mem_append.mp hp with hp | hp
          · have := dr.small p hp y hy; omega
          · rw [List.mem_singleton.mp hp] at hy
            have := sm y hy
            omega)⟩
      · intro p hp y hy
        rcases List.mem_append.mp hp with hp | hp
        · exact sf p hp y hy
        · rw [List.mem_singleton.mp hp] at hy
          obtain ⟨x, hx, rfl⟩ := List.mem_map.mp (show y ∈ q.2.map fun i => 0 - i from hy)
          have := dr.small q hq x hx
          omega
    · refine ⟨sys0, ?_, drawn_v dr (by decide) s1 (by omega) (by omega) (by omega), sf⟩
      rw [if_f (ρ1 := E8 s t4 tu (.fro (.int (m : Nat))) (.fro (sysD sys0)) (.fro (pairD q)) c6 c7 c8 .no .no) (by simp [E8, e4, gGt, lexI, z])]
      rfl
  obtain ⟨n1, _, n24⟩ := hv.few
  obtain ⟨z, ew, rw'⟩ := weights_ok hv
  have q5 : sAsg (gSet 6) (sCallP 1 (m_weights_for) (sCons (sVar 4) sNil)) (E8 s t4 tu (.fro (.int (m : Nat))) (.fro (sysD sys)) (.fro (pairD q)) c6 c7 c8 .no .no) = .ok .nx (E8 s t4 tu (.fro (.int (m : Nat))) (.fro (sysD sys)) (.fro (pairD q)) (.fro z) c7 c8 .no .no) :=
    asg_set (ρ1 := E8 s t4 tu (.fro (.int (m : Nat))) (.fro (sysD sys)) (.fro (pairD q)) c6 c7 c8 .no .no) (by simp [E8, ew]) rfl h6
  obtain ⟨a, t5, e5, h5', oa⟩ := any_ok 2 40 (by decide) h4'
  have e5' : m_L_any 40 [t4, .int 2] = .ok a [t5] := e5
  have mr0 := mul_rep 0 n1 (by omega)
  have mr1 := mul_rep 1 n1 (by omega)
  obtain ⟨ds0, hds0⟩ : ∃ ds0, ds0 = [D.tup [], intsD (List.replicate sys.length 0), intsD (List.replicate sys.length 1), a, .non] := ⟨_, rfl⟩
  have q6 : sAsg (gOwn 7) (sLst (sCons (sTup sNil) (sCons (sOps gMul (b2 (sVal (sTup (sCons (sCst (.int 0)) sNil))) (sVal (sOps gLen (bCons (sLoc 4) bNil))))) (sCons (sOps gMul (b2 (sVal (sTup (sCons (sCst (.int 1)) sNil))) (sVal (sOps gLen (bCons (sLoc 4) bNil))))) (sCons (sCallI 1 2 (m_L_any 40) (sCons (sCst (.int 2)) sNil)) (sCons (sCst .non) sNil)))))) (E8 s t4 tu (.fro (.int (m : Nat))) (.fro (sysD sys)) (.fro (pairD q)) (.fro z) c7 c8 .no .no) = .ok .nx (E8 s t5 tu (.fro (.int (m : Nat))) (.fro (sysD sys)) (.fro (pairD q)) (.fro z) (.own (.lst ds0)) c8 .no .no) := by
    refine asg_own (d := .lst ds0) (ρ1 := E8 s t5 tu (.fro (.int (m : Nat))) (.fro (sysD sys)) (.fro (pairD q)) (.fro z) c7 c8 .no .no) ?_ rfl h7
    have zl : 0 ≤ sizeLine := Nat.zero_le _
    have l5 : 5 ≤ sizeLine := line_pos (by decide)
    have ls := len_sys sys
    rw [hds0]
    generalize intsD (List.replicate sys.length 0) = y0 at mr0 ⊢
    generalize intsD (List.replicate sys.length 1) = y1 at mr1 ⊢
    simp [E8, ls, mr0, mr1, e5', l5, line1']
  obtain ⟨w1, t6, e6, h6', lw1⟩ := lc1 (s := s) (tu := tu) (c3 := .fro (.int (m : Nat))) (c5 := .fro (pairD q)) (c6 := .fro z) (c7 := .own (.lst ds0)) (c8 := c8) h5' (sys := sys) (by omega)
  have ll : ds0.length < sizeLine := by rw [hds0]; exact Nat.lt_of_lt_of_le (by decide : 5 < 100) (line_pos (by decide))
  have q7 : sExpr (sMut 7 mAppend (sCons (sOps gTuple (bCons (sVal c1_law) bNil)) sNil)) (E8 s t5 tu (.fro (.int (m : Nat))) (.fro (sysD sys)) (.fro (pairD q)) (.fro z) (.own (.lst ds0)) c8 .no .no) = .ok .nx (E8 s t6 tu (.fro (.int (m : Nat))) (.fro (sysD sys)) (.fro (pairD q)) (.fro z) (.own (.lst (ds0 ++ [intsD w1]))) c8 .no .no) := by
    have et : gTuple [.lst (w1.map .int)] = some (intsD w1) := rfl
    unfold E8 at e6 ⊢
    generalize w1.map D.int = zs at e6 et
    simp [e6, et, mAppend, ll]
  have od1 : ∀ d ∈ ds0 ++ [intsD w1], Ok 40 12 d := fun d hd => by
    rw [hds0] at hd
    simp only [List.cons_append, List.nil_append, List.mem_cons, List.not_mem_nil, or_false] at hd
    rcases hd with rfl | rfl | rfl | rfl | rfl | rfl
    · exact ok_tup.mpr ⟨by simp, fun x hx => nomatch hx⟩
    · exact ok_ints (by simp; omega)
    · exact ok_ints (by simp; omega)
    · exact oa.mono (by decide) (by decide)
    · exact ok_non
    · exact ok_ints (by omega)
  have ld1 : (ds0 ++ [intsD w1]).length = 6 := by rw [hds0]; rfl
  have fin : ∀ {ds : List D} {t' : D} {c : Cell}, (c = .own (.lst ds) ∨ c = .fro (.lst ds)) → (∀ d ∈ ds, Ok 40 12 d) → ds.length ≤ 1000 → TapeOk t' → sIfS (sTst (sOps gIsNot (b2 (sLoc 6) (sVal (sCst .non))))) u0_law sNx (E8 s t6 tu (.fro (.int (m : Nat))) (.fro (sysD sys)) (.fro (pairD q)) (.fro z) (.own (.lst (ds0 ++ [intsD w1]))) c8 .no .no) = .ok .nx (E8 s t' tu (.fro (.int (m : Nat))) (.fro (sysD sys)) (.fro (pairD q)) (.fro z) c c8 .no .no) →
      ∃ d8, t1_law (E8 s t tu c3 c4 c5 c6 c7 c8 .no .no) = .ok .nx (E8 s t' tu (.fro (.int (m : Nat))) (.fro (sysD sys)) (.fro (pairD q)) (.fro z) (.fro (.lst ds)) d8 .no .no) ∧ Pln d8 := fun {ds t' c} hc od ld ht e => by
    obtain ⟨d8, el, k8⟩ := lloop (s := s) (t := t') (tu := tu) (c3 := .fro (.int (m : Nat))) (c5 := .fro (pairD q)) (c6 := .fro z) hv hF od ld hc h8
    refine ⟨d8, ?_, k8⟩
    unfold t1_law
    rw [seq_ok q1, seq_ok q2, seq_ok q3, seq_ok q4, seq_ok q5, seq_ok q6, seq_ok q7, seq_ok e, el]
  rcases rw' with ⟨rfl, _⟩ | ⟨w, rfl, _, hb, _⟩
  · obtain ⟨d8, e, k8⟩ := fin (.inl rfl) od1 (by omega) h6' (by
      rw [if_f (ρ1 := E8 s t6 tu (.fro (.int (m : Nat))) (.fro (sysD sys)) (.fro (pairD q)) (.fro .non) (.own (.lst (ds0 ++ [intsD w1]))) c8 .no .no) (by simp [E8, isn_non])]
      rfl)
    exact ⟨t6, .fro (.int (m : Nat)), .fro (sysD sys), .fro (pairD q), .fro .non, .fro (.lst (ds0 ++ [intsD w1])), d8, e, h6', .f _, .f _, .f _, .f _, .f _, k8⟩
  · obtain ⟨ds', t7, eu, h7', od, ld⟩ := lu0 (s := s) (tu := tu) (c3 := .fro (.int (m : Nat))) (c5 := .fro (pairD q)) (c8 := c8) h6' hv hF hb od1 (by omega)
    obtain ⟨d8, e, k8⟩ := fin (.inr rfl) od (by omega) h7' (by
      rw [if_t (ρ1 := E8 s t6 tu (.fro (.int (m : Nat))) (.fro (sysD sys)) (.fro (pairD q)) (.fro (intsD w)) (.own (.lst (ds0 ++ [intsD w1]))) c8 .no .no) (by simp [E8, isn_ints])]
      exact eu)
    exact ⟨t7, .fro (.int (m : Nat)), .fro (sysD sys), .fro (pairD q), .fro (intsD w), .fro (.lst ds'), d8, e, h7', .f _, .f _, .f _, .f _, .f _, k8⟩
end
theorem l1_ok {s t : D} (h : TapeOk t) : ∃ ρ', l1_law [.fro s, .own t, .no, .no, .no, .no, .no, .no, .no, .no, .no] = .ok .nx ρ' ∧ ∃ t' c2 c3 c4 c5 c6 c7 c8, ρ' = [.fro s, .own t', c2, c3, c4, c5, c6, c7, c8, .no, .no] := by
  have hc := for_inv (I := fun ρ => ∃ t c2 c3 c4 c5 c6 c7 c8, TapeOk t ∧ Pln c2 ∧ Pln c3 ∧ Pln c4 ∧ Pln c5 ∧ Pln c6 ∧ Pln c7 ∧ Pln c8 ∧ ρ = [.fro s, .own t, c2, c3, c4, c5, c6, c7, c8, .no, .no]) (g := gSet 2) (s := t1_law) (ds := upto 0 12) (ρ := [.fro s, .own t, .no, .no, .no, .no, .no, .no, .no, .no, .no])
    (fun d hd ρ ⟨t, c2, c3, c4, c5, c6, c7, c8, ht, h2, h3, h4, h5, h6, h7, h8, hρ⟩ => by
      subst hρ
      obtain ⟨t', d3, d4, d5, d6, d7, d8, e, h', k3, k4, k5, k6, k7, k8⟩ := turn_ok (s := s) (tu := d) ht h3 h4 h5 h6 h7 h8
      exact ⟨_, _, .nx, h2.set rfl, e, .inl rfl, t', .fro d, d3, d4, d5, d6, d7, d8, h', .f _, k3, k4, k5, k6, k7, k8, rfl⟩)
    ⟨t, .no, .no, .no, .no, .no, .no, .no, h, .n, .n, .n, .n, .n, .n, .n, rfl⟩
  obtain ⟨ρ', e, t', c2, c3, c4, c5, c6, c7, c8, _, _, _, _, _, _, _, _, hρ⟩ := hc
  refine ⟨ρ', ?_, t', c2, c3, c4, c5, c6, c7, c8, hρ⟩
  unfold l1_law sFor
  rw [show (12 : Int) = ((12 : Nat) : Int) from rfl, rng1_it (n := 12) (ρ' := [.fro s, .own t, .no, .no, .no, .no, .no, .no, .no, .no, .no]) (by simp) (by decide), R.bind_ok]
  exact e
theorem lit_aw : m_are_weights [.tup [.tup [.bl false, .tup [.int 1]], .tup [.bl false, .tup [.int (-1)]]], .tup [.int 1, .int 1]] = .ok (.bl false) [] := by
  have hv : SysV 0 1 [(false, [1]), (false, [-1])] := ⟨⟨by decide, by decide, by decide⟩, by decide, ⟨by decide, by decide⟩, fun q hq x hx => by
    have : x.natAbs ≤ 1 := by
      simp only [List.mem_cons, List.not_mem_nil, or_false] at hq
      rcases hq with rfl | rfl <;> (simp only [List.mem_cons, List.not_mem_nil, or_false] at hx; rw [hx]; decide)
    exact Nat.le_trans this Nat.one_le_two_pow⟩
  have hF : SmallF [(false, [1]), (false, [-1])] := fun q hq x hx => by
    simp only [List.mem_cons, List.not_mem_nil, or_false] at hq
    rcases hq with rfl | rfl <;> (simp only [List.mem_cons, List.not_mem_nil, or_false] at hx; rw [hx]; decide)
  have e := paw_ok (k := 2) (n := 1) hv hF (d := .tup [.int 1, .int 1]) (ok_tup.mpr ⟨by simp, fun d hd => by
    simp only [List.mem_cons, List.not_mem_nil, or_false] at hd
    rcases hd with rfl | rfl <;> exact ok_int⟩)
  have : awB [(false, [1]), (false, [-1])] 1 (.tup [.int 1, .int 1]) = false := by decide
  rw [this] at e
  exact e
theorem law_gen {A : SS} {aw : List D → FR} {s t' : D} {ns : List Int} {ρ' : Dt.Env} {c2 c3 c4 c5 c6 c7 c8 : Cell} (hρ : ρ' = [.fro s, .own t', c2, c3, c4, c5, c6, c7, c8, .no, .no]) (el : gList [s] = some (.lst (ns.map .int)))
    (e : A [.fro s, .own (.lst [.lst (ns.map .int), .int 0, .int 0]), .no, .no, .no, .no, .no, .no, .no, .no, .no] = .ok .nx ρ')
    (ea : aw [.tup [.tup [.bl false, .tup [.int 1]], .tup [.bl false, .tup [.int (-1)]]], .tup [.int 1, .int 1]] = .ok (.bl false) []) :
    runP 11 1 (sSeq (sAsg (gOwn 1) (sLst (sCons (sOps gList (bCons (sLoc 0) bNil)) (sCons (sCst (.int 0)) (sCons (sCst (.int 0)) sNil)))))
      (sSeq A
      (sRet (sOps gIs (b2 (sVal (sCallP 2 aw (sCons (sTup (sCons (sTup (sCons (sCst (.bl false)) (sCons (sTup (sCons (sCst (.int 1)) sNil)) sNil))) (sCons (sTup (sCons (sCst (.bl false)) (sCons (sTup (sCons (sOps gNeg (b1 (sVal (sCst (.int 1))))) sNil)) sNil))) sNil))) (sCons (sTup (sCons (sCst (.int 1)) (sCons (sCst (.int 1)) sNil))) sNil)))) (sVal (sCst (.bl false)))))))) [s] = .ok (.bl true) [] := by
  subst hρ
  have i : gIs [.bl false, .bl false] = some (.bl true) := rfl
  unfold runP
  simp [line3, el, e, line2, line1', ea, gNeg, i]
theorem plain (ns : List Int) (hl : ns.length ≤ 63) (hb : ∀ z ∈ ns, Builtin.Int.intBits z ≤ 1048576) : ∃ o, m_law [.scr ns] = .ok (.bl true) o := by
  obtain ⟨ρ', e, t', c2, c3, c4, c5, c6, c7, c8, hρ⟩ := l1_ok (s := .scr ns) (t := .lst [.lst (ns.map .int), .int 0, .int 0]) ⟨ns, 0, 0, rfl⟩
  exact ⟨[], law_gen hρ rfl e lit_aw⟩
end Lw

open PySem PySem.W PyProof.Rows in
set_option maxRecDepth 100000 in
set_option maxHeartbeats 0 in
theorem PySem.Challenge.cw_countersums_k08_whole_weights_judged_holds : PySem.Challenge.rw_countersums_k08_whole_weights_judged.Holds := by
  w_on; o_law; k_head; (case hw => w_witness2)
  k_fill
  refine Lw.walk (l := PySem.Challenge.rw_countersums_k08_whole_weights_judged) rfl rfl (fun w h Y => PySem.W.kIn_of Y) ?F Lw.plain
  case F =>
    intro w mg fa h KX G hmg
    refine' Lw.all_mk KX G hmg ?a0 ?l0 ?c0 ?k0 ?a1 ?l1 ?c1 ?k1 ?a2 ?l2 ?c2 ?k2 ?a3 ?l3 ?c3 ?k3 ?a4 ?l4 ?c4 ?k4 ?a5 ?l5 ?c5 ?k5 ?a6 ?l6 ?c6 ?k6 ?a7 ?l7 ?c7 ?k7 ?a8 ?l8 ?c8 ?k8 ?a9 ?l9 ?c9 ?k9 ?a10 ?l10 ?c10 ?k10 ?a11 ?l11 ?c11 ?k11 ?a12 ?l12 ?c12 ?k12 ?a13 ?l13 ?c13 ?k13 ?a14 ?l14 ?c14 ?k14 ?a15 ?l15 ?c15 ?k15 ?a16 ?l16 ?c16 ?k16 ?a17 ?l17 ?c17 ?k17 ?a18 ?l18 ?c18 ?k18 ?a19 ?l19 ?c19 ?k19 ?a20 ?l20 ?c20 ?k20 ?a21 ?l21 ?c21 ?k21 ?a22 ?l22 ?c22 ?k22 ?a23 ?l23 ?c23 ?k23 ?a24 ?l24 ?c24 ?k24 ?a25 ?l25 ?c25 ?k25 ?a26 ?l26 ?c26 ?k26 ?z0 ?z1 ?z2 ?z3 ?z4 ?z5 ?z6 ?z7 ?z8 ?z9 ?z10 ?z11 ?z12 ?z13 ?z14 ?y0 ?y1
    (case a0 => k_is)
    (case l0 => k_is)
    (case c0 => k_is)
    (case k0 => k_is)
    (case a1 => k_is)
    (case l1 => k_is)
    (case c1 => k_is)
    (case k1 => k_is)
    (case a2 => k_is)
    (case l2 => k_is)
    (case c2 => k_is)
    (case k2 => k_is)
    (case a3 => k_is)
    (case l3 => k_is)
    (case c3 => k_is)
    (case k3 => k_is)
    (case a4 => k_is)
    (case l4 => k_is)
    (case c4 => k_is)
    (case k4 => k_is)
    (case a5 => k_is)
    (case l5 => k_is)
    (case c5 => k_is)
    (case k5 => k_is)
    (case a6 => k_is)
    (case l6 => k_is)
    (case c6 => k_is)
    (case k6 => k_is)
    (case a7 => k_is)
    (case l7 => k_is)
    (case c7 => k_is)
    (case k7 => k_is)
    (case a8 => k_is)
    (case l8 => k_is)
    (case c8 => k_is)
    (case k8 => k_is)
    (case a9 => k_is)
    (case l9 => k_is)
    (case c9 => k_is)
    (case k9 => k_is)
    (case a10 => k_is)
    (case l10 => k_is)
    (case c10 => k_is)
    (case k10 => k_is)
    (case a11 => k_is)
    (case l11 => k_is)
    (case c11 => k_is)
    (case k11 => k_is)
    (case a12 => k_is)
    (case l12 => k_is)
    (case c12 => k_is)
    (case k12 => k_is)
    (case a13 => k_is)
    (case l13 => k_is)
    (case c13 => k_is)
    (case k13 => k_is)
    (case a14 => k_is)
    (case l14 => k_is)
    (case c14 => k_is)
    (case k14 => k_is)
    (case a15 => k_is)
    (case l15 => k_is)
    (case c15 => k_is)
    (case k15 => k_is)
    (case a16 => k_is)
    (case l16 => k_is)
    (case c16 => k_is)
    (case k16 => k_is)
    (case a17 => k_is)
    (case l17 => k_is)
    (case c17 => k_is)
    (case k17 => k_is)
    (case a18 => k_is)
    (case l18 => k_is)
    (case c18 => k_is)
    (case k18 => k_is)
    (case a19 => k_is)
    (case l19 => k_is)
    (case c19 => k_is)
    (case k19 => k_is)
    (case a20 => k_is)
    (case l20 => k_is)
    (case c20 => k_is)
    (case k20 => k_is)
    (case a21 => k_is)
    (case l21 => k_is)
    (case c21 => k_is)
    (case k21 => k_is)
    (case a22 => k_is)
    (case l22 => k_is)
    (case c22 => k_is)
    (case k22 => k_is)
    (case a23 => k_is)
    (case l23 => k_is)
    (case c23 => k_is)
    (case k23 => k_is)
    (case a24 => k_is)
    (case l24 => k_is)
    (case c24 => k_is)
    (case k24 => k_is)
    (case a25 => k_is)
    (case l25 => k_is)
    (case c25 => k_is)
    (case k25 => k_is)
    (case a26 => k_is)
    (case l26 => k_is)
    (case c26 => k_is)
    (case k26 => k_is)
    (case z0 => k_is)
    (case z1 => k_is)
    (case z2 => k_is)
    (case z3 => k_is)
    (case z4 => k_is)
    (case z5 => k_is)
    (case z6 => k_is)
    (case z7 => k_is)
    (case z8 => k_is)
    (case z9 => k_is)
    (case z10 => k_is)
    (case z11 => k_is)
    (case z12 => k_is)
    (case z13 => k_is)
    (case z14 => k_is)
    (case y0 => k_is)
    (case y1 => k_is)

