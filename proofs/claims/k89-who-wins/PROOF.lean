import PyProof.Rows.All
import Wide.All
import OpenK.AllK
import Wide.FinOn
import HandS.ForMost
import HandS.ForExc
import HandS.Deep
import HandS.TupAny
import HandS.TupMul
import HandS.Lambda
import KE.KDictKeyed
import HandS.Style
import HandS.Flow
import HandS.IsInst
import HandS.SetKeys
import HandS.Strs
import HandS.Words
import HandS.SetFor
import HandS.SortInts
import KE.SortKeyHeap
import HandS.DictComp
import KE.GoesEnum
import HandS.Keys
import HandS.SortKw
import HandS.Small
import HandS.Nested
import HandS.EndTab
import KE.KNest
import HandS.WordsExc
import HandS.ExcInit
import HandS.ExcField
import HandS.TryOnly
import HandS.ClsMeth
import HandS.Zip
import HandS.Codes
import PyProof.StrBlock2
import KE.KDictPairs
import PySem.Challenge.RW_toldbyrules_k89_whole_who_wins
section
set_option Elab.async false
set_option linter.all false
set_option maxRecDepth 100000
set_option autoImplicit false
/-! TB0: tuples whose object is known to have no dict of its own. -/
namespace TB
open PySem PySem.Spec PyProof.Rows L2

/-- a tuple object without a dict -/
def TupZ (K : PySem.W.Frag) (H : Hp) (a : Addr) (xs : List V) : Prop :=
  (∃ o, H a = some (.frz o (.tup xs)) ∧ o.dict = none) ∨
    ∃ (o : Obj) (its : Array Value) (n : Nat), K.lookup a = some o ∧ o.cls = .type "tuple" ∧ o.dict = none ∧ o.data = .seq its n ∧ its.size ≤ sizeLine ∧ Vals xs its.toList
theorem TupZ.sq {K : PySem.W.Frag} {H : Hp} {a : Addr} {xs : List V} (t : TupZ K H a xs) : SqT K H a xs := by
  rcases t with ⟨o, e, _⟩ | ⟨o, its, n, h1, h2, _, h3, h4, h5⟩
  · exact .inl (.inr ⟨o, e⟩)
  · exact .inr ⟨o, its, n, h1, h2, h3, h4, h5⟩
theorem TupZ.nodict {X : Cx} {pins : List (Addr × Obj)} {σ : L2.St} {H : Hp} {s : Shared} {a : Addr} {xs : List V} (I : Inv X pins σ H s) (t : TupZ X.K H a xs) : ∃ o, s.heap.get? a = some o ∧ o.cls = .type "tuple" ∧ o.dict = none := by
  rcases t with ⟨o, e, d⟩ | ⟨o, its, n, h1, h2, h3, _, _, _⟩
  · obtain ⟨e1, _, _, _, o', h1, h2, _⟩ := I.hok a _ e
    rw [e1] at h1; cases h1
    exact ⟨o, e1, h2, d⟩
  · exact ⟨o, I.kIn a o h1, h2, h3⟩
/-- a new tuple -/
def rNT (xs : List V) (H : Hp) (Q : VK) : Prop := ∀ p o, H p = none → o.dict = none → Q (.ref p) (upd H p (.frz o (.tup xs)))
section
variable {X : Cx} {pins : List (Addr × Obj)} {σ : L2.St} {H : Hp} {s : Shared} {Q : VK}
theorem new_tup {xs : List V} {us : List Value} {n : Nat} (I : Inv X pins σ H s) (r : Vals xs us) (hz : xs.length ≤ sizeLine) (q : rNT xs H Q) {t : Nat} :
    EP X pins σ Q (.ref s.heap.objs.size) { s with heap := s.heap.push { cls := .type "tuple", data := .seq us.toArray n }, toks := t } := by
  refine ⟨.ref s.heap.objs.size, _, I.laid (t' := t) (o := .frz { cls := .type "tuple", data := .seq us.toArray n } (.tup xs)) (fun b ob q => Heap.get?_push_of_some _ q) (Nat.le_refl _) ?_, rfl, q _ _ (I.hok.fresh (Nat.le_refl _)) rfl⟩
  have e := Heap.get?_push_size s.heap (o := { cls := .type "tuple", data := .seq us.toArray n }) rfl
  exact ⟨e, hz, us, r, ⟨_, e, rfl, _, rfl⟩⟩
theorem pe_tupF {es : List Expr} {t : TA} {x1 : Nat} {pos : Pos} (h : PA X es t) : PE X (.Tuple es x1 pos) (fun σ H Q => t σ H fun xs H1 => xs.length ≤ sizeLine ∧ rNT xs H1 Q) := by
  refine ⟨fun pins s σ H Q I hq => ?_⟩
  refine wpAny_Tuple_spliced (thn (h.run pos pins s σ H _ I hq) fun us s1 ⟨xs, H1, I1, r, z, q⟩ => ⟨by rw [← r.length]; exact z, ?_⟩)
  exact new_tup (t := s1.toks) I1 r z q
def rCatF (K : PySem.W.Frag) : R2 := fun x y H Q => ∃ a b xs ys, x = .ref a ∧ y = .ref b ∧ SqT K H a xs ∧ SqT K H b ys ∧ xs.length + ys.length ≤ sizeLine ∧
  (xs = [] → Q (.ref b) H) ∧ (xs ≠ [] → ys = [] → Q (.ref a) H) ∧ (xs ≠ [] → ys ≠ [] → rNT (xs ++ ys) H Q)
theorem op_catF : OpR X (binaryOp .Add) (rCatF X.K) := by
  intro pins s σ H x y v u Q I rx ry h
  obtain ⟨a, b, xs, ys, rfl, rfl, ha, hb, hz, q0, q1, q2⟩ := h
  by_cases hx : xs = []
  · subst hx
    cases rx
    cases ry
    obtain ⟨its, r1, p1, _⟩ := I.tuple ha
    obtain ⟨its2, r2, p2, _⟩ := I.tuple hb
    cases r1
    exact cat_tup0 p1 p2 ⟨.ref b, H, I, rfl, q0 rfl⟩
  · cases rx
    cases ry
    obtain ⟨its, r1, p1, _⟩ := I.tuple ha
    obtain ⟨its2, r2, p2, _⟩ := I.tuple hb
    refine HT.cat_tup p1 p2 (fun z => hx (r1.nil_iff.mp z)) (fun z => ⟨.ref a, H, I, rfl, q1 hx (r2.nil_iff.mp z)⟩) (fun z => ?_) (by rw [← r1.length, ← r2.length]; exact hz)
    exact new_tup (t := s.toks) I (r1.append r2) (by rw [List.length_append]; exact hz) (q2 hx fun w => z (r2.nil_iff.mpr w))
def rSlF (K : PySem.W.Frag) : V → Option Int → Option Int → Hp → VK → Prop := fun x lo hi H Q => ∃ a xs, x = .ref a ∧ SqT K H a xs ∧
  (HT.sIx xs.length 0 lo = 0 ∧ HT.sIx xs.length xs.length hi = xs.length → Q (.ref a) H) ∧ (¬ (HT.sIx xs.length 0 lo = 0 ∧ HT.sIx xs.length xs.length hi = xs.length) → rNT (cutV xs lo hi) H Q)
theorem sl_tupF : SlR X (rSlF X.K) := by
  intro pins s σ H x v vl vu lo hi sl Q I rx hs pl pu h
  obtain ⟨a, xs, rfl, hx, q1, q2⟩ := h
  cases rx
  obtain ⟨its, r, ht, hz⟩ := I.tuple hx
  have hlen : its.toArray.size = xs.length := by rw [List.size_toArray]; exact r.length.symm
  refine ⟨"tuple", _, PyProof.Rows.slot_tuple_getitem.lookup, ht.typeIs, ?_⟩
  by_cases hw : HT.sIx xs.length 0 lo = 0 ∧ HT.sIx xs.length xs.length hi = xs.length
  · exact getItem_tuple_whole ht hs pl pu (by rw [hlen]; exact hw) ⟨.ref a, H, I, rfl, q1 hw⟩
  · refine HT.getItem_tuple_cut ht hs pl pu (by rw [hlen]; exact hw) ?_ (by rw [hlen]; exact hz)
    rw [hlen]
    exact new_tup (t := s.toks) (xs := cutV xs lo hi) I ((r.drop (HT.sIx xs.length 0 lo)).take (HT.sIx xs.length xs.length hi - HT.sIx xs.length 0 lo)) (Nat.le_trans (cutV_length xs lo hi) hz) (q2 hw)
def rTupOf (K : PySem.W.Frag) : List V → Hp → VK → Prop := fun xs H Q => ∃ p ys, xs = [.ref p] ∧ ((SqL K H p ys ∧ rNT ys H Q) ∨ (SqT K H p ys ∧ Q (.ref p) H))
theorem call_tupleF : CallR X (.type "tuple") (rTupOf X.K) := by
  intro pins s σ H xs us Q I r h
  obtain ⟨p, ys, rfl, h⟩ := h
  obtain ⟨u, rfl, rx⟩ := vals1 r
  cases rx
  rcases h with ⟨hq, q⟩ | ⟨hq, q⟩
  · obtain ⟨its, r', pl, hz⟩ := I.list hq
    have hlen := r'.length
    refine call_tuple_list pl.isList (fun h' kp => ?_) (by simp only [List.size_toArray] <;> omega)
    have I1 : Inv X pins σ H { s with heap := h' } := I.kept (t' := s.toks) kp
    exact new_tup (t := s.toks) I1 r' hz q
  · obtain ⟨its, r', pl, hz⟩ := I.tuple hq
    exact call_tuple_same pl ⟨.ref p, H, I, rfl, q⟩
end
end TB
end

section
set_option Elab.async false
set_option linter.all false
set_option maxRecDepth 100000
set_option autoImplicit false
/-! TB1: pure values, pure heaps, results; how they lie in the heap of the layer. -/
namespace TB
open PySem PySem.Spec PyProof.Rows L2

/-- the program's own classes; the exception that a suite has in hand: its class, its place, its dict's place -/
class LC where
  C : Str → Addr
  N : Str
  E : Addr
  X : Addr
  W : World
/-- a pure value -/
inductive D where
  | non | bl (b : Bool) | int (i : Int) | str (x : Str)
  | tup (xs : List D) | lst (xs : List D)
  | dic (kvs : List (Key × D)) | dit (kts : List (D × D)) | ins (C : Str) (fs : List (Str × D)) | exn (c : Str) (fs : List (Str × D))
  | fn (x : Str) | ty (n : String) | ref (n : Nat)
  | scr (ns : List Int)
  deriving Inhabited
/-- what a cell of the pure heap holds -/
inductive Ob where
  | lst (xs : List D) | dic (kvs : List (Key × D)) | dit (kts : List (D × D)) | ins (C : Str) (fs : List (Str × D))
abbrev Hh := List Ob
/-- an exception: its class, its fields -/
structure Exn where
  cls : Str
  fs : List (Str × D)
inductive Res (α : Type) where
  | ok (a : α) (h : Hh)
  | ex (e : Exn) (h : Hh)
  | bad
def Res.bind {α β : Type} (r : Res α) (k : α → Hh → Res β) : Res β := match r with
  | .ok a h => k a h
  | .ex e h => .ex e h
  | .bad => .bad
@[simp] theorem Res.bind_ok {α β : Type} (a : α) (h : Hh) (k : α → Hh → Res β) : (Res.ok a h).bind k = k a h := rfl
@[simp] theorem Res.bind_ex {α β : Type} (e : Exn) (h : Hh) (k : α → Hh → Res β) : (Res.ex e h : Res α).bind k = .ex e h := rfl
@[simp] theorem Res.bind_bad {α β : Type} (k : α → Hh → Res β) : (Res.bad : Res α).bind k = .bad := rfl
abbrev Sl := List (Option D)
abbrev EM := Sl → Hh → Res D
abbrev AM := Sl → Hh → Res (List D)
abbrev TM := Sl → Hh → Res Bool
inductive Fl where
  | nx (s : Sl) | rt (v : D) | bk (s : Sl) | ct (s : Sl) | rs (e : Exn) (s : Sl)
abbrev SM := Sl → Hh → Res Fl

/-! ### how values lie -/
/-- a text as the model bears it -/
structure SOk (x : Str) : Prop where
  ok : PyData.strOk x = true
  len : x.length ≤ sizeLine
def KOk : Key → Prop
  | .inl _ => True
  | .inr x => SOk x

mutual
/-- a value as a key, up to == -/
def nk : D → Option NestedKey
  | .non => some .none
  | .bl b => some (.num (if b = true then 1 else 0))
  | .int i => some (.num i)
  | .str x => some (.text x)
  | .tup xs => (nks xs).map .tup
  | _ => none
def nks : List D → Option (List NestedKey)
  | [] => some []
  | x :: xs => (nk x).bind fun k => (nks xs).map fun ks => k :: ks
end
/-- a tuple as a key -/
def nkT (d : D) : Option NestedKey := match d with
  | .tup xs => (nk (.tup xs)).bind fun k => if k.depth ≤ 8 then some k else none
  | _ => none
/-- at a: a dict with keys that are tuples; ys: the keys, where their tuples stand, the values -/
def NDO (w : World) (a : Addr) (ys : List (NestedKey × Addr × V)) : HO := .ext fun h => (a == sysModules) = false ∧ ys.length ≤ sizeLine ∧ ∃ xs : List (NestedKey × Addr × Value), Paired (fun (y : NestedKey × Addr × V) (x : NestedKey × Addr × Value) => y.1 = x.1 ∧ y.2.1 = x.2.1 ∧ RelV y.2.2 x.2.2) ys xs ∧ (xs.map (·.1)).Nodup ∧
  ∃ o es ep, h.get? a = some o ∧ o.ExactDict ∧ o.data = .dict es ep ∧ es.toList = xs.map fun x => (⟨NestedKey.hash w x.1, .ref x.2.1, x.2.2⟩ : DictEntry)
variable [LC]
mutual
inductive Rep (K : PySem.W.Frag) (mu : List Addr) (Z : Hp) : D → V → Prop
  | non : Rep K mu Z .non .non
  | bl (b : Bool) : Rep K mu Z (.bl b) (.bl b)
  | int (i : Int) : Rep K mu Z (.int i) (.int i)
  | str {x : Str} : SOk x → Rep K mu Z (.str x) (.str x)
  | tup {xs : List D} {a : Addr} {vs : List V} : TupZ K Z a vs → Reps K mu Z xs vs → xs.length ≤ sizeLine → Rep K mu Z (.tup xs) (.ref a)
  | scr {ns : List Int} {a : Addr} : SqL K Z a (ns.map V.int) → ns.length ≤ sizeLine → Rep K mu Z (.scr ns) (.ref a)
  | lst {xs : List D} {a : Addr} {vs : List V} : Z a = some (.lst vs) → Reps K mu Z xs vs → xs.length ≤ sizeLine → Rep K mu Z (.lst xs) (.ref a)
  | dic {ks : List (Key × D)} {a : Addr} {o : Obj} {kvs : List (Key × V)} : Z a = some (.frz o (.dK kvs)) → ks.map (·.1) = kvs.map (·.1) → ((∀ k, k ∈ ks.map (·.1) → KOk k) ∧ ks.length ≤ sizeLine) → Reps K mu Z (ks.map (·.2)) (kvs.map (·.2)) → Rep K mu Z (.dic ks) (.ref a)
  | dit {kts : List (D × D)} {a : Addr} {o : Obj} {ys : List (NestedKey × Addr × V)} : Z a = some (.frz o (NDO LC.W a ys)) → kts.map (fun p => nkT p.1) = ys.map (fun y => some y.1) → kts.length ≤ sizeLine → Reps K mu Z (kts.map (·.1)) (ys.map fun y => .ref y.2.1) → Reps K mu Z (kts.map (·.2)) (ys.map (·.2.2)) → Rep K mu Z (.dit kts) (.ref a)
  | exn {fs : List (Str × D)} {gs : List (Str × V)} : Z LC.X = some (.xd gs) → fs.map (·.1) = gs.map (·.1) → Reps K mu Z (fs.map (·.2)) (gs.map (·.2)) → Rep K mu Z (.exn LC.N fs) (.ref LC.E)
  | ins {C : Str} {fs : List (Str × D)} {a dx : Addr} {gs : List (Str × V)} : Z a = some (.ins (LC.C C) dx gs) → Z dx = some (.own a) → fs.map (·.1) = gs.map (·.1) → Reps K mu Z (fs.map (·.2)) (gs.map (·.2)) → Rep K mu Z (.ins C fs) (.ref a)
  | fn (x : Str) : Rep K mu Z (.fn x) (.ref (LC.C x))
  | ty (n : String) : Rep K mu Z (.ty n) (.ty n)
  | ref {n : Nat} {a : Addr} : mu[n]? = some a → Rep K mu Z (.ref n) (.ref a)
inductive Reps (K : PySem.W.Frag) (mu : List Addr) (Z : Hp) : List D → List V → Prop
  | nil : Reps K mu Z [] []
  | cons {x : D} {v : V} {xs : List D} {vs : List V} : Rep K mu Z x v → Reps K mu Z xs vs → Reps K mu Z (x :: xs) (v :: vs)
end
/-- Z' has what Z has -/
def Sub (Z Z' : Hp) : Prop := ∀ a o, Z a = some o → Z' a = some o
theorem Sub.refl (Z : Hp) : Sub Z Z := fun _ _ h => h
theorem Sub.trans {Z Z' Z2 : Hp} (a : Sub Z Z') (b : Sub Z' Z2) : Sub Z Z2 := fun c o h => b c o (a c o h)
theorem Sub.sqL {K : PySem.W.Frag} {Z Z' : Hp} {a : Addr} {xs : List V} (s : Sub Z Z') (h : SqL K Z a xs) : SqL K Z' a xs := by
  rcases h with (h | ⟨o, h⟩) | h
  · exact .inl (.inl (s _ _ h))
  · exact .inl (.inr ⟨o, s _ _ h⟩)
  · exact .inr h
theorem Sub.sqT {K : PySem.W.Frag} {Z Z' : Hp} {a : Addr} {xs : List V} (s : Sub Z Z') (h : SqT K Z a xs) : SqT K Z' a xs := by
  rcases h with (h | ⟨o, h⟩) | h
  · exact .inl (.inl (s _ _ h))
  · exact .inl (.inr ⟨o, s _ _ h⟩)
  · exact .inr h
theorem Sub.tupZ {K : PySem.W.Frag} {Z Z' : Hp} {a : Addr} {xs : List V} (s : Sub Z Z') (h : TupZ K Z a xs) : TupZ K Z' a xs := by
  rcases h with ⟨o, h, d⟩ | h
  · exact .inl ⟨o, s _ _ h, d⟩
  · exact .inr h
section
variable {K : PySem.W.Frag} {mu mu' : List Addr} {Z Z' : Hp}
mutual
theorem Rep.mono (hm : ∀ (n : Nat) (a : Addr), mu[n]? = some a → mu'[n]? = some a) (hz : Sub Z Z') : ∀ {d : D} {v : V}, Rep K mu Z d v → Rep K mu' Z' d v
  | _, _, .non => .non
  | _, _, .bl b => .bl b
  | _, _, .int i => .int i
  | _, _, .str h => .str h
  | _, _, .tup h r l => .tup (hz.tupZ h) (Reps.mono hm hz r) l
  | _, _, .scr h l => .scr (hz.sqL h) l
  | _, _, .lst h r l => .lst (hz _ _ h) (Reps.mono hm hz r) l
  | _, _, .dic h e k r => .dic (hz _ _ h) e k (Reps.mono hm hz r)
  | _, _, .dit h e l r1 r2 => .dit (hz _ _ h) e l (Reps.mono hm hz r1) (Reps.mono hm hz r2)
  | _, _, .ins h h2 e r => .ins (hz _ _ h) (hz _ _ h2) e (Reps.mono hm hz r)
  | _, _, .exn h e r => .exn (hz _ _ h) e (Reps.mono hm hz r)
  | _, _, .fn a => .fn a
  | _, _, .ty n => .ty n
  | _, _, .ref h => .ref (hm _ _ h)
theorem Reps.mono (hm : ∀ (n : Nat) (a : Addr), mu[n]? = some a → mu'[n]? = some a) (hz : Sub Z Z') : ∀ {ds : List D} {vs : List V}, Reps K mu Z ds vs → Reps K mu' Z' ds vs
  | _, _, .nil => .nil
  | _, _, .cons r rs => .cons (Rep.mono hm hz r) (Reps.mono hm hz rs)
end
theorem Reps.length : ∀ {ds : List D} {vs : List V}, Reps K mu Z ds vs → ds.length = vs.length
  | _, _, .nil => rfl
  | _, _, .cons _ rs => by simp [Reps.length rs]
theorem Reps.append : ∀ {ds es : List D} {vs us : List V}, Reps K mu Z ds vs → Reps K mu Z es us → Reps K mu Z (ds ++ es) (vs ++ us)
  | _, _, _, _, .nil, s => s
  | _, _, _, _, .cons r rs, s => .cons r (Reps.append rs s)
theorem Reps.get : ∀ {ds : List D} {vs : List V} {i : Nat} {d : D}, Reps K mu Z ds vs → ds[i]? = some d → ∃ v, vs[i]? = some v ∧ Rep K mu Z d v
  | _, _, 0, _, .cons r _, e => by simp at e; subst e; exact ⟨_, rfl, r⟩
  | _, _, i + 1, _, .cons _ rs, e => by
    obtain ⟨v, h1, h2⟩ := Reps.get (i := i) rs (by simpa using e)
    exact ⟨v, by simpa using h1, h2⟩
theorem Reps.get' : ∀ {ds : List D} {vs : List V} {i : Nat} {v : V}, Reps K mu Z ds vs → vs[i]? = some v → ∃ d, ds[i]? = some d ∧ Rep K mu Z d v
  | _, _, 0, _, .cons r _, e => by simp at e; subst e; exact ⟨_, rfl, r⟩
  | _, _, i + 1, _, .cons _ rs, e => by
    obtain ⟨v, h1, h2⟩ := Reps.get' (i := i) rs (by simpa using e)
    exact ⟨v, by simpa using h1, h2⟩
theorem Reps.set {d : D} {v : V} (r : Rep K mu Z d v) : ∀ {ds : List D} {vs : List V} (i : Nat), Reps K mu Z ds vs → Reps K mu Z (ds.set i d) (vs.set i v)
  | _, _, _, .nil => .nil
  | _, _, 0, .cons _ rs => .cons r rs
  | _, _, i + 1, .cons q rs => .cons q (Reps.set r i rs)
theorem Reps.take : ∀ {ds : List D} {vs : List V} (n : Nat), Reps K mu Z ds vs → Reps K mu Z (ds.take n) (vs.take n)
  | _, _, 0, _ => .nil
  | _, _, _ + 1, .nil => .nil
  | _, _, n + 1, .cons r rs => .cons r (Reps.take n rs)
theorem Reps.drop : ∀ {ds : List D} {vs : List V} (n : Nat), Reps K mu Z ds vs → Reps K mu Z (ds.drop n) (vs.drop n)
  | _, _, 0, r => r
  | _, _, _ + 1, .nil => .nil
  | _, _, n + 1, .cons _ rs => Reps.drop n rs
theorem Reps.reverse : ∀ {ds : List D} {vs : List V}, Reps K mu Z ds vs → Reps K mu Z ds.reverse vs.reverse
  | _, _, .nil => .nil
  | _, _, .cons r rs => by
    rw [List.reverse_cons, List.reverse_cons]
    exact (Reps.reverse rs).append (.cons r .nil)
theorem Reps.erase : ∀ {ds : List D} {vs : List V} (i : Nat), Reps K mu Z ds vs → Reps K mu Z (ds.eraseIdx i) (vs.eraseIdx i)
  | _, _, _, .nil => .nil
  | _, _, 0, .cons _ rs => rs
  | _, _, i + 1, .cons q rs => .cons q (Reps.erase i rs)
theorem Reps.insert {d : D} {v : V} (r : Rep K mu Z d v) : ∀ {ds : List D} {vs : List V} (i : Nat), Reps K mu Z ds vs → Reps K mu Z (ds.take i ++ d :: ds.drop i) (vs.take i ++ v :: vs.drop i)
  | _, _, i, h => (h.take i).append (.cons r (h.drop i))
end

/-! ### the state -/
def ObRep (K : PySem.W.Frag) (mu : List Addr) (Z H : Hp) (a : Addr) : Ob → Prop
  | .lst xs => xs.length ≤ sizeLine ∧ ∃ vs, H a = some (.lst vs) ∧ Reps K mu Z xs vs
  | .dic ks => ∃ kvs, H a = some (.dK kvs) ∧ ks.map (·.1) = kvs.map (·.1) ∧ ((∀ k, k ∈ ks.map (·.1) → KOk k) ∧ ks.length ≤ sizeLine) ∧ Reps K mu Z (ks.map (·.2)) (kvs.map (·.2))
  | .dit kts => ∃ ys, H a = some (NDO LC.W a ys) ∧ kts.map (fun p => nkT p.1) = ys.map (fun y => some y.1) ∧ kts.length ≤ sizeLine ∧ Reps K mu Z (kts.map (·.1)) (ys.map fun y => .ref y.2.1) ∧ Reps K mu Z (kts.map (·.2)) (ys.map (·.2.2))
  | .ins C fs => ∃ dx gs, H a = some (.ins (LC.C C) dx gs) ∧ fs.map (·.1) = gs.map (·.1) ∧ Reps K mu Z (fs.map (·.2)) (gs.map (·.2))
/-- the tables of code objects that the program may write: their places, the names that they tell -/
class LT where
  T : List (Addr × Str)
variable [LT]
/-- nothing of the tables lies there -/
def NTb (H : Hp) (a : Addr) : Prop := ∀ u, H a = some u → (∀ ps, u ≠ .tbl ps) ∧ ∀ c q, u ≠ LamX.CodeO c q
theorem NTb.non {H : Hp} {a : Addr} (h : H a = none) : NTb H a := fun u e => by rw [h] at e; cases e
/-- no code object is a dict -/
theorem nd_code {w : World} {a c : Addr} {q : Str} {ys : List (NestedKey × Addr × V)} : NDO w a ys ≠ LamX.CodeO c q := fun z => by
  unfold NDO LamX.CodeO at z
  have e := HO.ext.inj z
  have oc : ∃ oc : Obj, oc = { cls := .none, data := .fields #[.none, .str q default] } := ⟨_, rfl⟩
  obtain ⟨oc, hoc⟩ := oc
  have g : ∀ b, (({ objs := (List.replicate (c + 1) oc).toArray } : Heap)).get? b = if b < c + 1 then some oc else none := fun b => by
    unfold Heap.get?
    simp only [List.getElem?_toArray, List.getElem?_replicate]
    by_cases hb : b < c + 1
    · rw [if_pos hb, hoc]
    · rw [if_neg hb]
  have e1 := congrFun e ({ objs := (List.replicate (c + 1) oc).toArray } : Heap)
  have t : (∃ (o2 : Obj) (vs : Array Value) (t : Tok), (({ objs := (List.replicate (c + 1) oc).toArray } : Heap)).get? c = some o2 ∧ o2.data = .fields vs ∧ vs[1]? = some (.str q t)) :=
    ⟨oc, #[.none, .str q default], default, by rw [g, if_pos (Nat.lt_succ_self c)], by rw [hoc], rfl⟩
  rw [← e1] at t
  obtain ⟨_, _, _, _, _, o, es, ep, ho, hx, _⟩ := t
  rw [g] at ho
  split at ho
  · cases ho
    have := hx.1
    rw [hoc] at this
    cases this
  · cases ho
theorem NTb.som {H : Hp} {a : Addr} {o : HO} (h : H a = some o) (h1 : ∀ ps, o ≠ .tbl ps := by intro _ z; cases z) (h2 : ∀ c q, o ≠ LamX.CodeO c q := by intro _ _ z; cases z) : NTb H a := fun u e => by
  rw [h] at e; cases e
  exact ⟨h1, h2⟩
/-- the tables in H; Z has none -/
structure TSR (Z H : Hp) : Prop where
  t : LamX.Tabs LT.T H
  z : ∀ a ps, Z a ≠ some (.tbl ps)
theorem tabs_keep {H H' : Hp} (t : LamX.Tabs LT.T H) (k : ∀ b u, H b = some u → ((∃ ps, u = .tbl ps) ∨ ∃ c q, u = LamX.CodeO c q) → H' b = some u) : LamX.Tabs LT.T H' := fun p hp => by
  obtain ⟨ps, h1, h2, h3⟩ := t p hp
  refine ⟨ps, k _ _ h1 (.inl ⟨_, rfl⟩), h2, fun pos cv hc => ?_⟩
  obtain ⟨c, e1, e2⟩ := h3 pos cv hc
  exact ⟨c, e1, k _ _ e2 (.inr ⟨_, _, rfl⟩)⟩
theorem TSR.upd {Z Z' H : Hp} {a : Addr} (t : TSR Z H) (n : NTb H a) (hz : ∀ a ps, Z' a ≠ some (.tbl ps)) (o : HO) : TSR Z' (upd H a o) :=
  ⟨tabs_keep t.t fun b u e h => by
    have hb : b ≠ a := fun z => by
      subst z
      obtain ⟨n1, n2⟩ := n u e
      rcases h with ⟨ps, h⟩ | ⟨c, q, h⟩
      · exact n1 ps h
      · exact n2 c q h
    rw [upd_ne hb]; exact e, hz⟩
theorem TSR.re {Z Z' H : Hp} (t : TSR Z H) (hz : ∀ a ps, Z' a ≠ some (.tbl ps)) : TSR Z' H := ⟨t.t, hz⟩
theorem ztb_upd {Z : Hp} {a : Addr} {o : HO} (t : ∀ a ps, Z a ≠ some (.tbl ps)) (ho : ∀ ps, o ≠ .tbl ps) : ∀ b ps, upd Z a o b ≠ some (.tbl ps) := fun b ps z => by
  by_cases hb : b = a
  · rw [hb, upd_same] at z
    exact ho ps (Option.some.inj z)
  · rw [upd_ne hb] at z
    exact t b ps z
/-- the pure heap h lies in H: cell n at mu[n]; Z: what never changes any more -/
structure SR (K : PySem.W.Frag) (mu : List Addr) (Z H : Hp) (h : Hh) : Prop where
  zin : Sub Z H
  len : mu.length = h.length
  nd : mu.Nodup
  sep : ∀ a, a ∈ mu → Z a = none
  cell : ∀ (n : Nat) (ob : Ob) (a : Addr), h[n]? = some ob → mu[n]? = some a → ObRep K mu Z H a ob
  tb : TSR Z H
/-- what a step of the code may do -/
structure Stp (mu : List Addr) (Z H : Hp) (mu' : List Addr) (Z' H' : Hp) : Prop where
  pre : ∃ nu, mu' = mu ++ nu
  zm : Sub Z Z'
  fr : ∀ a o, H a = some o → a ∉ mu → (∀ ps, o ≠ .tbl ps) → H' a = some o
  nm : ∀ a, a ∈ mu' → a ∈ mu ∨ H a = none
  nz : ∀ a o, Z' a = some o → Z a = some o ∨ H a = none
  al : ∀ a o, H a = some o → ∃ o', H' a = some o'
theorem Stp.refl (mu : List Addr) (Z H : Hp) : Stp mu Z H mu Z H :=
  ⟨⟨[], by simp⟩, Sub.refl _, fun _ _ h _ _ => h, fun _ h => .inl h, fun _ _ h => .inl h, fun _ o h => ⟨o, h⟩⟩
theorem Stp.trans {mu mu1 mu2 : List Addr} {Z Z1 Z2 H H1 H2 : Hp} (a : Stp mu Z H mu1 Z1 H1) (b : Stp mu1 Z1 H1 mu2 Z2 H2) : Stp mu Z H mu2 Z2 H2 where
  pre := by
    obtain ⟨n1, e1⟩ := a.pre
    obtain ⟨n2, e2⟩ := b.pre
    exact ⟨n1 ++ n2, by rw [e2, e1, List.append_assoc]⟩
  zm := a.zm.trans b.zm
  fr := fun c o h hc hn => b.fr c o (a.fr c o h hc hn) (fun hm => by
    rcases a.nm c hm with z | z
    · exact hc z
    · rw [h] at z; cases z) hn
  nm := fun c hc => by
    rcases b.nm c hc with z | z
    · exact a.nm c z
    · right
      cases q : H c with
      | none => rfl
      | some o =>
        obtain ⟨o', e⟩ := a.al c o q
        rw [e] at z; cases z
  nz := fun c o hc => by
    rcases b.nz c o hc with z | z
    · exact a.nz c o z
    · right
      cases q : H c with
      | none => rfl
      | some o =>
        obtain ⟨o', e⟩ := a.al c o q
        rw [e] at z; cases z
  al := fun c o h => by
    obtain ⟨o', e⟩ := a.al c o h
    exact b.al c o' e
theorem pre_get {mu mu' : List Addr} (h : ∃ nu, mu' = mu ++ nu) (n : Nat) (a : Addr) (e : mu[n]? = some a) : mu'[n]? = some a := by
  obtain ⟨nu, rfl⟩ := h
  have hn : n < mu.length := (List.getElem?_eq_some_iff.mp e).1
  rw [List.getElem?_append_left hn]
  exact e
section
variable {K : PySem.W.Frag} {mu mu' : List Addr} {Z Z' H H' : Hp} {h h' : Hh}
theorem Stp.rep (p : Stp mu Z H mu' Z' H') {d : D} {v : V} (r : Rep K mu Z d v) : Rep K mu' Z' d v := r.mono (pre_get p.pre) p.zm
theorem Stp.reps (p : Stp mu Z H mu' Z' H') {d : List D} {v : List V} (r : Reps K mu Z d v) : Reps K mu' Z' d v := r.mono (pre_get p.pre) p.zm
theorem ObRep.ntb {a : Addr} {ob : Ob} (r : ObRep K mu Z H a ob) : NTb H a := by
  cases ob with
  | lst xs => obtain ⟨_, _, e, _⟩ := r; exact .som e
  | dic xs => obtain ⟨_, e, _⟩ := r; exact .som e
  | dit xs => obtain ⟨_, e, _⟩ := r; exact .som e (fun _ z => by cases z) fun _ _ z => nd_code z
  | ins C fs => obtain ⟨_, _, e, _⟩ := r; exact .som e
theorem ObRep.tracked {a : Addr} {ob : Ob} (r : ObRep K mu Z H a ob) : ∃ o, H a = some o := by
  cases ob with
  | lst xs => obtain ⟨_, _, e, _⟩ := r; exact ⟨_, e⟩
  | dic xs => obtain ⟨_, e, _⟩ := r; exact ⟨_, e⟩
  | dit xs => obtain ⟨_, e, _⟩ := r; exact ⟨_, e⟩
  | ins C fs => obtain ⟨_, _, e, _⟩ := r; exact ⟨_, e⟩
theorem SR.tracked (s : SR K mu Z H h) {a : Addr} (hm : a ∈ mu) : ∃ o, H a = some o := by
  obtain ⟨n, hn, e⟩ := List.getElem_of_mem hm
  have hh : n < h.length := by rw [← s.len]; exact hn
  exact (s.cell n h[n] a (by simp [hh]) (by rw [← e]; simp [hn])).tracked
theorem SR.ntb (s : SR K mu Z H h) {a : Addr} (hm : a ∈ mu) : NTb H a := by
  obtain ⟨n, hn, e⟩ := List.getElem_of_mem hm
  have hh : n < h.length := by rw [← s.len]; exact hn
  exact (s.cell n h[n] a (by simp [hh]) (by rw [← e]; simp [hn])).ntb
theorem SR.fresh (s : SR K mu Z H h) {a : Addr} (e : H a = none) : a ∉ mu ∧ Z a = none := by
  refine ⟨fun hm => ?_, ?_⟩
  · obtain ⟨o, q⟩ := s.tracked hm
    rw [e] at q; cases q
  · cases q : Z a with
    | none => rfl
    | some o => have := s.zin a o q; rw [e] at this; cases this
theorem ObRep.mono {a : Addr} {ob : Ob} (hm : ∀ (n : Nat) (a : Addr), mu[n]? = some a → mu'[n]? = some a) (hz : Sub Z Z') (he : ∀ o, H a = some o → H' a = some o) (r : ObRep K mu Z H a ob) : ObRep K mu' Z' H' a ob := by
  cases ob with
  | lst xs => obtain ⟨l, vs, e, q⟩ := r; exact ⟨l, vs, he _ e, q.mono hm hz⟩
  | dic xs => obtain ⟨vs, e, e2, k, q⟩ := r; exact ⟨vs, he _ e, e2, k, q.mono hm hz⟩
  | dit xs => obtain ⟨vs, e, e2, k, q, q2⟩ := r; exact ⟨vs, he _ e, e2, k, q.mono hm hz, q2.mono hm hz⟩
  | ins C fs => obtain ⟨dx, gs, e, e2, q⟩ := r; exact ⟨dx, gs, he _ e, e2, q.mono hm hz⟩
end

/-- the slots -/
structure SltR (K : PySem.W.Frag) (mu : List Addr) (Z : Hp) (s : Sl) (sg : L2.St) : Prop where
  len : s.length = sg.length
  at_ : ∀ (i : Nat) (d : D), s[i]? = some (some d) → ∃ v, sg[i]? = some (some v) ∧ Rep K mu Z d v
section
variable {K : PySem.W.Frag} {mu mu' : List Addr} {Z Z' H H' : Hp} {h h' : Hh} {s : Sl} {sg : L2.St}
theorem SltR.mono (r : SltR K mu Z s sg) (p : Stp mu Z H mu' Z' H') : SltR K mu' Z' s sg := ⟨r.len, fun i d e => by
  obtain ⟨v, e1, e2⟩ := r.at_ i d e
  exact ⟨v, e1, p.rep e2⟩⟩
theorem SltR.set (r : SltR K mu Z s sg) (i : Nat) {d : D} {v : V} (q : Rep K mu Z d v) : SltR K mu Z (s.set i (some d)) (sg.set i (some v)) := by
  refine ⟨by simp [r.len], fun j x e => ?_⟩
  by_cases hj : i = j
  · subst hj
    by_cases hl : i < s.length
    · rw [List.getElem?_set_self hl] at e
      cases e
      exact ⟨v, by rw [List.getElem?_set_self (by rw [← r.len]; exact hl)], q⟩
    · rw [List.getElem?_eq_none (by simpa using hl)] at e; cases e
  · rw [List.getElem?_set_ne hj] at e
    obtain ⟨u, e1, e2⟩ := r.at_ j x e
    exact ⟨u, by rw [List.getElem?_set_ne hj]; exact e1, e2⟩
end
/-- the slots of a block's own names forgotten -/
def wip (s : Sl) : List Nat → Sl
  | [] => s
  | v :: vs => (wip s vs).set v none
theorem wip_length (s : Sl) : ∀ vs : List Nat, (wip s vs).length = s.length
  | [] => rfl
  | v :: vs => by unfold wip; rw [List.length_set, wip_length s vs]
theorem SltR.wip {K : PySem.W.Frag} {mu : List Addr} {Z : Hp} {s : Sl} {sg : L2.St} (r : SltR K mu Z s sg) : ∀ vs : List Nat, SltR K mu Z (TB.wip s vs) (wipe sg vs)
  | [] => r
  | v :: vs => by
    have q := SltR.wip r vs
    refine ⟨by unfold TB.wip wipe; simp [q.len], fun j x e => ?_⟩
    unfold TB.wip at e
    unfold wipe
    by_cases hj : v = j
    · subst hj
      by_cases hl : v < (TB.wip s vs).length
      · rw [List.getElem?_set_self hl] at e; cases e
      · rw [List.getElem?_eq_none (by simpa using hl)] at e; cases e
    · rw [List.getElem?_set_ne hj] at e
      obtain ⟨u, e1, e2⟩ := q.at_ j x e
      exact ⟨u, by rw [List.getElem?_set_ne hj]; exact e1, e2⟩

/-- how an exception lies -/
def ExRep (K : PySem.W.Frag) (mu : List Addr) (Z H : Hp) (e : Exn) (cls : Value) (d : Option Addr) : Prop :=
  cls = .ref (LC.C e.cls) ∧ (∃ x gs, d = some x ∧ Z x = some (.xd gs) ∧ e.fs.map (·.1) = gs.map (·.1) ∧ Reps K mu Z (e.fs.map (·.2)) (gs.map (·.2)))

/-- what follows a result -/
def Out (K : PySem.W.Frag) (mu : List Addr) (Z H : Hp) {α : Type} (r : Res α) (W : Value → Option Addr → Hp → Prop) (Q : α → List Addr → Hp → Hp → Hh → Prop) : Prop :=
  match r with
  | .ok v h' => ∀ mu' Z' H', SR K mu' Z' H' h' → Stp mu Z H mu' Z' H' → Q v mu' Z' H' h'
  | .ex e h' => ∀ mu' Z' H' cls d, SR K mu' Z' H' h' → Stp mu Z H mu' Z' H' → ExRep K mu' Z' H' e cls d → W cls d H'
  | .bad => False
theorem Out.mono {K : PySem.W.Frag} {mu mu1 : List Addr} {Z Z1 H H1 : Hp} {α : Type} {r : Res α} {W : Value → Option Addr → Hp → Prop} {Q Q' : α → List Addr → Hp → Hp → Hh → Prop} (p : Stp mu Z H mu1 Z1 H1)
    (o : Out K mu Z H r W Q) (hq : ∀ v mu' Z' H' h', Stp mu1 Z1 H1 mu' Z' H' → Q v mu' Z' H' h' → Q' v mu' Z' H' h') : Out K mu1 Z1 H1 r W Q' := by
  cases r with
  | ok v h' => exact fun mu' Z' H' s q => hq _ _ _ _ _ q (o mu' Z' H' s (p.trans q))
  | ex e h' => exact fun mu' Z' H' cls d s q x => o mu' Z' H' cls d s (p.trans q) x
  | bad => exact o

abbrev WXx := Value → Option Addr → L2.St → Hp → Prop
/-- the reading of f at values vs that wait as us -/
def tA (K : PySem.W.Frag) (W : WXx) (vs : List D) (us : List V) (f : Sl → Hh → Res D) : TE := fun sg H Q => ∃ mu Z h s, SR K mu Z H h ∧ SltR K mu Z s sg ∧ Reps K mu Z vs us ∧
  Out K mu Z H (f s h) (fun c d H' => W c d sg H') fun v mu' Z' H' _ => ∀ u, Rep K mu' Z' v u → Q u H'
abbrev tE (K : PySem.W.Frag) (W : WXx) (f : EM) : TE := tA K W [] [] f
/-- f is what e gives -/
def SE (W : WXx) (X : Cx) (e : Expr) (f : EM) : Prop := PE X e (tE X.K W f)
theorem PE.imp {X : Cx} {e : Expr} {t t' : TE} (h : PE X e t) (hi : ∀ sg H Q, t' sg H Q → t sg H Q) : PE X e t' := ⟨fun pins s σ H Q I q => h.run pins s σ H Q I (hi _ _ _ q)⟩
theorem PT.imp {X : Cx} {e : Expr} {t t' : TT} (h : PT X e t) (hi : ∀ sg H Q, t' sg H Q → t sg H Q) : PT X e t' := ⟨fun pins s σ H Q I q => h.run pins s σ H Q I (hi _ _ _ q)⟩
theorem PA.imp {X : Cx} {e : List Expr} {t t' : TA} (h : PA X e t) (hi : ∀ sg H Q, t' sg H Q → t sg H Q) : PA X e t' := ⟨fun pos pins s σ H Q I q => h.run pos pins s σ H Q I (hi _ _ _ q)⟩
theorem PS.imp {X : Cx} {e : Stmt} {t t' : TS} (h : PS X e t) (hi : ∀ D sg H, t' D sg H → t D sg H) : PS X e t' := ⟨fun pins s σ H D I q => h.run pins s σ H D I (hi _ _ _ q)⟩
theorem PSs.imp {X : Cx} {e : List Stmt} {t t' : TS} (h : PSs X e t) (hi : ∀ D sg H, t' D sg H → t D sg H) : PSs X e t' := ⟨fun pins s σ H D I q => h.run pins s σ H D I (hi _ _ _ q)⟩

section
variable {K : PySem.W.Frag} {W : WXx} {vs : List D} {us : List V} {sg : L2.St} {H : Hp} {Q : VK}
/-- f, then k -/
theorem tA.seq {f : EM} {k : D → Sl → Hh → Res D} (o : tA K W vs us (fun s h => (f s h).bind fun v h' => k v s h') sg H Q) :
    tE K W f sg H fun u H1 => ∃ v, tA K W (v :: vs) (u :: us) (k v) sg H1 Q := by
  obtain ⟨mu, Z, h, s, sr, sl, rp, o⟩ := o
  refine ⟨mu, Z, h, s, sr, sl, .nil, ?_⟩
  cases e : f s h with
  | ok v h1 =>
    simp only [e, Res.bind_ok] at o
    exact fun mu1 Z1 H1 sr1 p1 u ru => ⟨v, mu1, Z1, h1, s, sr1, sl.mono p1, .cons ru (p1.reps rp), Out.mono p1 o fun _ _ _ _ _ _ q => q⟩
  | ex x h1 =>
    simp only [e, Res.bind_ex] at o
    exact o
  | bad =>
    simp only [e, Res.bind_bad] at o
    exact o.elim
end
end TB
end

section
set_option Elab.async false
set_option linter.all false
set_option maxRecDepth 100000
set_option autoImplicit false
set_option maxHeartbeats 1000000
/-! TB2: operations on pure values and what they ask of the layer. -/
namespace TB
open PySem PySem.Spec PyProof.Rows L2
variable [LC] [LT]

/-! ### data of the library -/
mutual
def toPy : D → PyData
  | .non => .none
  | .bl b => .bool b
  | .int i => .int i
  | .str x => .str x
  | .tup xs => .tuple (toPys xs)
  | .lst xs => .list (toPys xs)
  | .dic _ | .dit _ | .ins _ _ | .exn _ _ | .fn _ | .ty _ | .ref _ | .scr _ => .dict []
def toPys : List D → List PyData
  | [] => []
  | x :: xs => toPy x :: toPys xs
end
mutual
/-- data without cells, dicts, instances, classes -/
def plain : D → Bool
  | .non | .bl _ | .int _ | .str _ => true
  | .tup xs | .lst xs => plains xs
  | .dic _ | .dit _ | .ins _ _ | .exn _ _ | .fn _ | .ty _ | .ref _ | .scr _ => false
def plains : List D → Bool
  | [] => true
  | x :: xs => plain x && plains xs
end
mutual
def dep : D → Nat
  | .tup xs | .lst xs => deps xs + 1
  | .non | .bl _ | .int _ | .str _ | .dic _ | .dit _ | .ins _ _ | .exn _ _ | .fn _ | .ty _ | .ref _ | .scr _ => 0
def deps : List D → Nat
  | [] => 0
  | x :: xs => max (dep x) (deps xs)
end
mutual
/-- Python's == on plain data -/
def eqv : D → D → Bool
  | .non, .non => true
  | .bl a, .bl b => a == b
  | .bl a, .int j => (if a then 1 else 0) == j
  | .int i, .bl b => i == (if b then 1 else 0)
  | .int i, .int j => i == j
  | .str x, .str y => x == y
  | .lst xs, .lst ys => eqvs xs ys
  | .tup xs, .tup ys => eqvs xs ys
  | _, _ => false
def eqvs : List D → List D → Bool
  | [], [] => true
  | x :: xs, y :: ys => eqv x y && eqvs xs ys
  | _, _ => false
end
mutual
theorem eqv_toPy : ∀ (a b : D), plain a = true → plain b = true → PyData.eqv (toPy a) (toPy b) = eqv a b
  | .non, b, _, hb => by cases b <;> simp_all [toPy, PyData.eqv, eqv, plain]
  | .bl x, b, _, hb => by cases b <;> simp_all [toPy, PyData.eqv, eqv, plain]
  | .int x, b, _, hb => by cases b <;> simp_all [toPy, PyData.eqv, eqv, plain]
  | .str x, b, _, hb => by cases b <;> simp_all [toPy, PyData.eqv, eqv, plain]
  | .tup xs, b, ha, hb => by
    cases b with
    | tup ys =>
      simp only [toPy, PyData.eqv, eqv]
      exact eqvs_toPy xs ys (by simpa [plain] using ha) (by simpa [plain] using hb)
    | _ => simp_all [toPy, PyData.eqv, eqv, plain]
  | .lst xs, b, ha, hb => by
    cases b with
    | lst ys =>
      simp only [toPy, PyData.eqv, eqv]
      exact eqvs_toPy xs ys (by simpa [plain] using ha) (by simpa [plain] using hb)
    | _ => simp_all [toPy, PyData.eqv, eqv, plain]
  | .dic _, _, ha, _ => by simp [plain] at ha
  | .dit _, _, ha, _ => by simp [plain] at ha
  | .ins _ _, _, ha, _ => by simp [plain] at ha
  | .exn _ _, _, ha, _ => by simp [plain] at ha
  | .fn _, _, ha, _ => by simp [plain] at ha
  | .ty _, _, ha, _ => by simp [plain] at ha
  | .ref _, _, ha, _ => by simp [plain] at ha
  | .scr _, _, ha, _ => by simp [plain] at ha
theorem eqvs_toPy : ∀ (xs ys : List D), plains xs = true → plains ys = true → PyData.eqvAll (toPys xs) (toPys ys) = eqvs xs ys
  | [], [], _, _ => by simp [toPys, PyData.eqvAll, eqvs]
  | [], y :: ys, _, _ => by simp [toPys, PyData.eqvAll, eqvs]
  | x :: xs, [], _, _ => by simp [toPys, PyData.eqvAll, eqvs]
  | x :: xs, y :: ys, ha, hb => by
    simp only [plains, Bool.and_eq_true] at ha hb
    simp only [toPys, PyData.eqvAll, eqvs]
    rw [eqv_toPy x y ha.1 hb.1, eqvs_toPy xs ys ha.2 hb.2]
end
mutual
theorem dep_toPy : ∀ (a : D), plain a = true → (toPy a).depth = dep a
  | .non, _ => by simp [toPy, PyData.depth, dep]
  | .bl x, _ => by simp [toPy, PyData.depth, dep]
  | .int x, _ => by simp [toPy, PyData.depth, dep]
  | .str x, _ => by simp [toPy, PyData.depth, dep]
  | .tup xs, ha => by simp [toPy, PyData.depth, dep, deps_toPy xs (by simpa [plain] using ha)]
  | .lst xs, ha => by simp [toPy, PyData.depth, dep, deps_toPy xs (by simpa [plain] using ha)]
  | .dic _, ha => by simp [plain] at ha
  | .dit _, ha => by simp [plain] at ha
  | .ins _ _, ha => by simp [plain] at ha
  | .exn _ _, ha => by simp [plain] at ha
  | .fn _, ha => by simp [plain] at ha
  | .ty _, ha => by simp [plain] at ha
  | .ref _, ha => by simp [plain] at ha
  | .scr _, ha => by simp [plain] at ha
theorem deps_toPy : ∀ (xs : List D), plains xs = true → PyData.depthAll (toPys xs) = deps xs
  | [], _ => by simp [toPys, PyData.depthAll, deps]
  | x :: xs, ha => by
    simp only [plains, Bool.and_eq_true] at ha
    simp [toPys, PyData.depthAll, deps, dep_toPy x ha.1, deps_toPy xs ha.2]
end
/-- what == may be asked of -/
def okD (d : D) : Bool := plain d && decide (dep d ≤ 64)
def okDs (ds : List D) : Bool := plains ds && decide (deps ds ≤ 63)
section
variable {K : PySem.W.Frag} {mu : List Addr} {Z H : Hp}
mutual
theorem Rep.dp (hz : Sub Z H) : ∀ {d : D} {v : V}, Rep K mu Z d v → plain d = true → Dp K H v (toPy d) ∧ (toPy d).canLay0 = true
  | _, _, .non, _ => ⟨by simp only [toPy]; exact .non, by simp [toPy, PyData.canLay0]⟩
  | _, _, .bl b, _ => ⟨by simp only [toPy]; exact .bl b, by simp [toPy, PyData.canLay0]⟩
  | _, _, .int i, _ => ⟨by simp only [toPy]; exact .int i, by simp [toPy, PyData.canLay0]⟩
  | _, _, .str h, _ => ⟨by simp only [toPy]; exact .str _, by simpa [toPy, PyData.canLay0] using h.ok⟩
  | _, _, .tup h r _, hp => by
    obtain ⟨q1, q2⟩ := Reps.dp hz r (by simpa [plain] using hp)
    exact ⟨by simp only [toPy]; exact .tup (hz.tupZ h).sq q1, by simpa [toPy, PyData.canLay0] using q2⟩
  | _, _, .lst h r _, hp => by
    obtain ⟨q1, q2⟩ := Reps.dp hz r (by simpa [plain] using hp)
    exact ⟨by simp only [toPy]; exact .lst (SqL.of (hz _ _ h)) q1, by simpa [toPy, PyData.canLay0] using q2⟩
  | _, _, .scr _ _, hp => by simp [plain] at hp
  | _, _, .dic _ _ _ _, hp => by simp [plain] at hp
  | _, _, .dit _ _ _ _ _, hp => by simp [plain] at hp
  | _, _, .ins _ _ _ _, hp => by simp [plain] at hp
  | _, _, .exn _ _ _, hp => by simp [plain] at hp
  | _, _, .fn _, hp => by simp [plain] at hp
  | _, _, .ty _, hp => by simp [plain] at hp
  | _, _, .ref _, hp => by simp [plain] at hp
theorem Reps.dp (hz : Sub Z H) : ∀ {ds : List D} {vs : List V}, Reps K mu Z ds vs → plains ds = true → DpAll K H vs (toPys ds) ∧ PyData.canLayAll0 (toPys ds) = true
  | _, _, .nil, _ => ⟨by simp only [toPys]; exact .nil, by simp [toPys, PyData.canLayAll0]⟩
  | _, _, .cons r rs, hp => by
    simp only [plains, Bool.and_eq_true] at hp
    obtain ⟨p1, p2⟩ := Rep.dp hz r hp.1
    obtain ⟨q1, q2⟩ := Reps.dp hz rs hp.2
    exact ⟨by simp only [toPys]; exact .cons p1 q1, by simp [toPys, PyData.canLayAll0, p2, q2]⟩
end
end
/-- a list in a cell, read -/
def rdD (h : Hh) : D → D
  | .ref n => match h[n]? with
    | some (.lst xs) => .lst xs
    | _ => .ref n
  | d => d
section
variable {K : PySem.W.Frag} {mu : List Addr} {Z H : Hp} {h : Hh} {d : D} {v : V}
theorem SR.cellAt (sr : SR K mu Z H h) {n : Nat} {ob : Ob} (e : h[n]? = some ob) (r : Rep K mu Z (.ref n) v) : ∃ a, v = .ref a ∧ mu[n]? = some a ∧ ObRep K mu Z H a ob := by
  cases r with
  | ref q => exact ⟨_, rfl, q, sr.cell _ _ _ e q⟩
theorem SR.shaped (sr : SR K mu Z H h) (r : Rep K mu Z d v) (ok : okD (rdD h d) = true) : Dp K H v (toPy (rdD h d)) ∧ SeqAt.shaped (toPy (rdD h d)) = true := by
  unfold okD at ok
  simp only [Bool.and_eq_true, decide_eq_true_eq] at ok
  have sh : ∀ d : D, plain d = true → dep d ≤ 64 → (toPy d).canLay0 = true → SeqAt.shaped (toPy d) = true := fun d hp hd hc => by
    unfold SeqAt.shaped
    rw [hc, dep_toPy d hp]
    simpa using hd
  by_cases hr : ∃ n xs, d = .ref n ∧ h[n]? = some (.lst xs)
  · obtain ⟨n, xs, rfl, e⟩ := hr
    have e1 : rdD h (.ref n) = .lst xs := by simp [rdD, e]
    rw [e1] at ok ⊢
    obtain ⟨a, rfl, ha, _, vs, e2, rp⟩ := sr.cellAt e r
    obtain ⟨q1, q2⟩ := rp.dp sr.zin (by simpa [plain] using ok.1)
    refine ⟨?_, sh _ ok.1 ok.2 (by simpa [toPy, PyData.canLay0] using q2)⟩
    simp only [toPy]
    exact .lst (SqL.of e2) q1
  · have e1 : rdD h d = d := by
      unfold rdD
      split
      · rename_i n
        split
        · rename_i xs e
          exact absurd ⟨n, xs, rfl, e⟩ hr
        · rfl
      · rfl
    rw [e1] at ok ⊢
    obtain ⟨q1, q2⟩ := r.dp sr.zin ok.1
    exact ⟨q1, sh _ ok.1 ok.2 q2⟩
end
/-- == and != -/
def eqOp (x y : D) (h : Hh) : Res D := if (okD (rdD h x) && okD (rdD h y)) = true then .ok (.bl (eqv (rdD h x) (rdD h y))) h else .bad
def neOp (x y : D) (h : Hh) : Res D := if (okD (rdD h x) && okD (rdD h y)) = true then .ok (.bl (!eqv (rdD h x) (rdD h y))) h else .bad
theorem okD_plain {d : D} (h : okD d = true) : plain d = true := (Bool.and_eq_true_iff.mp h).1

/-- an operation of two values and its reading -/
def Op2 (K : PySem.W.Frag) (r : R2) (op : D → D → Hh → Res D) : Prop :=
  ∀ (W : WXx) (x y : D) (u v : V) (sg : L2.St) (H : Hp) (Q : VK), tA K W [y, x] [v, u] (fun _ h => op x y h) sg H Q → r u v H Q
theorem tA.open2 {K : PySem.W.Frag} {W : WXx} {x y : D} {u v : V} {f : Sl → Hh → Res D} {sg : L2.St} {H : Hp} {Q : VK} (o : tA K W [y, x] [v, u] f sg H Q) :
    ∃ mu Z h s, SR K mu Z H h ∧ SltR K mu Z s sg ∧ Rep K mu Z x u ∧ Rep K mu Z y v ∧ Out K mu Z H (f s h) (fun c d H' => W c d sg H') fun v mu' Z' H' _ => ∀ u, Rep K mu' Z' v u → Q u H' := by
  obtain ⟨mu, Z, h, s, sr, sl, rp, o⟩ := o
  cases rp with
  | cons r1 rp =>
    cases rp with
    | cons r2 rp => exact ⟨mu, Z, h, s, sr, sl, r2, r1, o⟩
theorem tA.open1 {K : PySem.W.Frag} {W : WXx} {x : D} {u : V} {f : Sl → Hh → Res D} {sg : L2.St} {H : Hp} {Q : VK} (o : tA K W [x] [u] f sg H Q) :
    ∃ mu Z h s, SR K mu Z H h ∧ SltR K mu Z s sg ∧ Rep K mu Z x u ∧ Out K mu Z H (f s h) (fun c d H' => W c d sg H') fun v mu' Z' H' _ => ∀ u, Rep K mu' Z' v u → Q u H' := by
  obtain ⟨mu, Z, h, s, sr, sl, rp, o⟩ := o
  cases rp with
  | cons r1 rp => exact ⟨mu, Z, h, s, sr, sl, r1, o⟩
/-- a known result -/
theorem Out.val {K : PySem.W.Frag} {mu : List Addr} {Z H : Hp} {h : Hh} {v : D} {u : V} {W : Value → Option Addr → Hp → Prop} {Q : VK} {r : Res D} (sr : SR K mu Z H h) (e : r = .ok v h) (rp : Rep K mu Z v u)
    (o : Out K mu Z H r W fun v mu' Z' H' _ => ∀ u, Rep K mu' Z' v u → Q u H') : Q u H := by
  rw [e] at o
  exact o mu Z H sr (Stp.refl _ _ _) u rp
theorem op2_eq {K : PySem.W.Frag} : Op2 K (rEqD K) eqOp := by
  intro W x y u v sg H Q o
  replace o := o.open2
  obtain ⟨mu, Z, h, s, sr, sl, rx, ry, o⟩ := o
  by_cases hc : (okD (rdD h x) && okD (rdD h y)) = true
  · obtain ⟨h1, h2⟩ := Bool.and_eq_true_iff.mp hc
    obtain ⟨d1, s1⟩ := sr.shaped rx h1
    obtain ⟨d2, s2⟩ := sr.shaped ry h2
    refine ⟨_, _, d1, d2, s1, s2, ?_⟩
    rw [eqv_toPy _ _ (okD_plain h1) (okD_plain h2)]
    exact Out.val (v := .bl _) sr (by simp only [eqOp, if_pos hc]) (.bl _) o
  · simp only [eqOp, if_neg hc] at o
    exact o.elim
theorem op2_ne {K : PySem.W.Frag} : Op2 K (rNeD K) neOp := by
  intro W x y u v sg H Q o
  replace o := o.open2
  obtain ⟨mu, Z, h, s, sr, sl, rx, ry, o⟩ := o
  by_cases hc : (okD (rdD h x) && okD (rdD h y)) = true
  · obtain ⟨h1, h2⟩ := Bool.and_eq_true_iff.mp hc
    obtain ⟨d1, s1⟩ := sr.shaped rx h1
    obtain ⟨d2, s2⟩ := sr.shaped ry h2
    refine ⟨_, _, d1, d2, s1, s2, ?_⟩
    rw [eqv_toPy _ _ (okD_plain h1) (okD_plain h2)]
    exact Out.val (v := .bl _) sr (by simp only [neOp, if_pos hc]) (.bl _) o
  · simp only [neOp, if_neg hc] at o
    exact o.elim
/-! ### new objects, changed cells -/
section
variable {K : PySem.W.Frag} {mu : List Addr} {Z H : Hp} {h : Hh} {p : Addr}
theorem SR.addZ (sr : SR K mu Z H h) (hp : H p = none) (o : HO) (ho : ∀ ps, o ≠ .tbl ps := by intro _ z; cases z) : SR K mu (upd Z p o) (upd H p o) h ∧ Stp mu Z H mu (upd Z p o) (upd H p o) := by
  obtain ⟨f1, f2⟩ := sr.fresh hp
  have hz : Sub Z (upd Z p o) := fun a q e => by rw [upd_ne (ne_of_none e f2)]; exact e
  refine ⟨⟨fun a q e => ?_, sr.len, sr.nd, fun a hm => ?_, fun n ob a e1 e2 => ?_, sr.tb.upd (.non hp) (ztb_upd sr.tb.z ho) o⟩, ⟨⟨[], by simp⟩, hz, fun a q e _ _ => ?_, fun a hm => .inl hm, fun a q e => ?_, fun a q e => ?_⟩⟩
  · by_cases ha : a = p
    · subst ha; rw [upd_same] at e ⊢; exact e
    · rw [upd_ne ha] at e ⊢; exact sr.zin a q e
  · have : a ≠ p := fun e => f1 (e ▸ hm)
    rw [upd_ne this]; exact sr.sep a hm
  · refine (sr.cell n ob a e1 e2).mono (fun _ _ x => x) hz fun q e => ?_
    rw [upd_ne (ne_of_none e hp)]; exact e
  · rw [upd_ne (ne_of_none e hp)]; exact e
  · by_cases ha : a = p
    · subst ha; exact .inr hp
    · rw [upd_ne ha] at e; exact .inl e
  · by_cases ha : a = p
    · subst ha; exact ⟨_, upd_same⟩
    · exact ⟨q, by rw [upd_ne ha]; exact e⟩
theorem SR.addM (sr : SR K mu Z H h) (hp : H p = none) (o : HO) (ob : Ob) (r : ObRep K (mu ++ [p]) Z (upd H p o) p ob) : SR K (mu ++ [p]) Z (upd H p o) (h ++ [ob]) ∧ Stp mu Z H (mu ++ [p]) Z (upd H p o) := by
  obtain ⟨f1, f2⟩ := sr.fresh hp
  have pg := pre_get (mu := mu) (mu' := mu ++ [p]) ⟨[p], rfl⟩
  refine ⟨⟨fun a q e => ?_, by simp [sr.len], ?_, fun a hm => ?_, fun n ob' a e1 e2 => ?_, sr.tb.upd (.non hp) sr.tb.z o⟩, ⟨⟨[p], rfl⟩, Sub.refl _, fun a q e _ _ => ?_, fun a hm => ?_, fun a q e => .inl e, fun a q e => ?_⟩⟩
  · rw [upd_ne (ne_of_none e f2)]; exact sr.zin a q e
  · rw [List.nodup_append]
    refine ⟨sr.nd, by simp, fun a ha b hb e => ?_⟩
    simp at hb
    subst hb
    subst e
    exact f1 ha
  · rcases List.mem_append.mp hm with hm | hm
    · exact sr.sep a hm
    · simp at hm; subst hm; exact f2
  · by_cases hn : n < h.length
    · rw [List.getElem?_append_left hn] at e1
      rw [List.getElem?_append_left (by rw [sr.len]; exact hn)] at e2
      refine (sr.cell n ob' a e1 e2).mono pg (Sub.refl _) fun q e => ?_
      rw [upd_ne (ne_of_none e hp)]; exact e
    · have hn' : n = h.length := by
        have := (List.getElem?_eq_some_iff.mp e1).1
        simp at this
        omega
      subst hn'
      rw [List.getElem?_append_right (Nat.le_refl _)] at e1
      rw [← sr.len, List.getElem?_append_right (Nat.le_refl _)] at e2
      simp at e1 e2
      subst e1
      subst e2
      exact r
  · rw [upd_ne (ne_of_none e hp)]; exact e
  · rcases List.mem_append.mp hm with hm | hm
    · exact .inl hm
    · simp at hm; subst hm; exact .inr hp
  · by_cases ha : a = p
    · subst ha; exact ⟨_, upd_same⟩
    · exact ⟨q, by rw [upd_ne ha]; exact e⟩
theorem SR.setM {a : Addr} {n : Nat} (sr : SR K mu Z H h) (hm : mu[n]? = some a) (o : HO) (ob : Ob) (r : ObRep K mu Z (upd H a o) a ob) : SR K mu Z (upd H a o) (h.set n ob) ∧ Stp mu Z H mu Z (upd H a o) := by
  have am : a ∈ mu := List.mem_of_getElem? hm
  have az := sr.sep a am
  refine ⟨⟨fun b q e => ?_, by simp [sr.len], sr.nd, sr.sep, fun m ob' b e1 e2 => ?_, sr.tb.upd (sr.ntb am) sr.tb.z o⟩, ⟨⟨[], by simp⟩, Sub.refl _, fun b q e hb _ => ?_, fun b hb => .inl hb, fun b q e => .inl e, fun b q e => ?_⟩⟩
  · rw [upd_ne (ne_of_none e az)]; exact sr.zin b q e
  · by_cases hn : n = m
    · subst hn
      rw [hm] at e2; cases e2
      have hl : n < h.length := by rw [← sr.len]; exact (List.getElem?_eq_some_iff.mp hm).1
      rw [List.getElem?_set_self hl] at e1; cases e1
      exact r
    · rw [List.getElem?_set_ne hn] at e1
      have hb : b ≠ a := fun e => by
        subst e
        obtain ⟨h1, q1⟩ := List.getElem?_eq_some_iff.mp hm
        obtain ⟨h2, q2⟩ := List.getElem?_eq_some_iff.mp e2
        exact hn ((List.getElem_inj sr.nd).mp (q1.trans q2.symm))
      have c := sr.cell m ob' b e1 e2
      cases ob' with
      | lst xs => obtain ⟨l, vs, e, q⟩ := c; exact ⟨l, vs, by rw [upd_ne hb]; exact e, q⟩
      | dic xs => obtain ⟨vs, e, e2, k, q⟩ := c; exact ⟨vs, by rw [upd_ne hb]; exact e, e2, k, q⟩
      | dit xs => obtain ⟨vs, e, q⟩ := c; exact ⟨vs, by rw [upd_ne hb]; exact e, q⟩
      | ins C fs => obtain ⟨dx, gs, e, e2, q⟩ := c; exact ⟨dx, gs, by rw [upd_ne hb]; exact e, e2, q⟩
  · rw [upd_ne (fun e2 => hb (by rw [e2]; exact am))]; exact e
  · by_cases hb : b = a
    · subst hb; exact ⟨_, upd_same⟩
    · exact ⟨q, by rw [upd_ne hb]; exact e⟩
/-- a new list: hp: in a cell, to be changed; else as a value -/
def mkL (b : Bool) (xs : List D) (h : Hh) : Res D := if b = true then .ok (.ref h.length) (h ++ [.lst xs]) else .ok (.lst xs) h
def mkT (xs : List D) (h : Hh) : Res D := .ok (.tup xs) h
variable {xs : List D} {vs : List V} {W : Value → Option Addr → Hp → Prop} {Q : VK}
theorem SR.newL {b : Bool} (sr : SR K mu Z H h) (rp : Reps K mu Z xs vs) (hl : xs.length ≤ sizeLine) (hp : H p = none) (o : Out K mu Z H (mkL b xs h) W fun v mu' Z' H' _ => ∀ u, Rep K mu' Z' v u → Q u H') : Q (.ref p) (upd H p (.lst vs)) := by
  obtain ⟨f1, f2⟩ := sr.fresh hp
  cases b with
  | false =>
    obtain ⟨q1, q2⟩ := sr.addZ hp (.lst vs)
    exact o _ _ _ q1 q2 _ (.lst upd_same (q2.reps rp) hl)
  | true =>
    have pg := pre_get (mu := mu) (mu' := mu ++ [p]) ⟨[p], rfl⟩
    obtain ⟨q1, q2⟩ := sr.addM hp (.lst vs) (.lst xs) ⟨hl, vs, upd_same, rp.mono pg (Sub.refl _)⟩
    exact o _ _ _ q1 q2 _ (.ref (by rw [← sr.len]; simp))
theorem SR.newT (sr : SR K mu Z H h) (rp : Reps K mu Z xs vs) (hl : xs.length ≤ sizeLine) (o : Out K mu Z H (mkT xs h) W fun v mu' Z' H' _ => ∀ u, Rep K mu' Z' v u → Q u H') : rNT vs H Q := by
  intro p ob hp hd
  obtain ⟨q1, q2⟩ := sr.addZ hp (.frz ob (.tup vs))
  exact o _ _ _ q1 q2 _ (.tup (.inl ⟨ob, upd_same, hd⟩) (q2.reps rp) hl)
end
/-- the items of a list -/
def lsOf (h : Hh) : D → Option (List D)
  | .lst xs => some xs
  | .ref n => match h[n]? with
    | some (.lst xs) => some xs
    | _ => none
  | _ => none
/-- the items of a list or a tuple -/
def sqOf (h : Hh) : D → Option (List D)
  | .tup xs => some xs
  | d => lsOf h d
section
variable {K : PySem.W.Frag} {mu : List Addr} {Z H : Hp} {h : Hh} {d : D} {v : V} {xs : List D}
theorem SR.ls (sr : SR K mu Z H h) (r : Rep K mu Z d v) (e : lsOf h d = some xs) : ∃ a vs, v = .ref a ∧ H a = some (.lst vs) ∧ Reps K mu Z xs vs := by
  cases d with
  | lst ys =>
    cases r with
    | lst q rp _ =>
      simp only [lsOf, Option.some.injEq] at e
      subst e
      exact ⟨_, _, rfl, sr.zin _ _ q, rp⟩
  | ref n =>
    simp only [lsOf] at e
    split at e
    · rename_i ys q
      cases e
      obtain ⟨a, rfl, _, _, vs, e2, rp⟩ := sr.cellAt q r
      exact ⟨a, vs, rfl, e2, rp⟩
    · cases e
  | _ => simp [lsOf] at e
theorem SR.sq (sr : SR K mu Z H h) (r : Rep K mu Z d v) (e : sqOf h d = some xs) : ∃ a vs, v = .ref a ∧ (SqL K H a vs ∨ SqT K H a vs) ∧ Reps K mu Z xs vs := by
  by_cases ht : ∃ ys, d = .tup ys
  · obtain ⟨ys, rfl⟩ := ht
    cases r with
    | tup q rp _ =>
      simp only [sqOf, Option.some.injEq] at e
      subst e
      exact ⟨_, _, rfl, .inr (sr.zin.tupZ q).sq, rp⟩
  · have e' : lsOf h d = some xs := by
      unfold sqOf at e
      split at e
      · rename_i ys
        exact absurd ⟨ys, rfl⟩ ht
      · exact e
    obtain ⟨a, vs, e1, e2, rp⟩ := sr.ls r e'
    exact ⟨a, vs, e1, .inl (SqL.of e2), rp⟩
theorem SR.lsLen (sr : SR K mu Z H h) (r : Rep K mu Z d v) (e : lsOf h d = some xs) : xs.length ≤ sizeLine := by
  cases d with
  | lst ys =>
    cases r with
    | lst q rp l =>
      simp only [lsOf, Option.some.injEq] at e
      subst e
      exact l
  | ref n =>
    simp only [lsOf] at e
    split at e
    · rename_i ys q
      cases e
      obtain ⟨a, rfl, _, l, vs, e2, rp⟩ := sr.cellAt q r
      exact l
    · cases e
  | _ => simp [lsOf] at e
theorem SR.sqLen (sr : SR K mu Z H h) (r : Rep K mu Z d v) (e : sqOf h d = some xs) : xs.length ≤ sizeLine := by
  by_cases ht : ∃ ys, d = .tup ys
  · obtain ⟨ys, rfl⟩ := ht
    cases r with
    | tup q rp l =>
      simp only [sqOf, Option.some.injEq] at e
      subst e
      exact l
  · refine sr.lsLen r (xs := xs) ?_
    unfold sqOf at e
    split at e
    · rename_i ys
      exact absurd ⟨ys, rfl⟩ ht
    · exact e
end
end TB
end

section
set_option Elab.async false
set_option linter.all false
set_option maxRecDepth 100000
set_option autoImplicit false
set_option maxHeartbeats 1000000
/-! TB3: expressions. -/
namespace TB
open PySem PySem.Spec PyProof.Rows L2
variable [LC] [LT]

section
variable {K : PySem.W.Frag} {W : WXx} {vs : List D} {us : List V} {sg : L2.St} {H : Hp} {Q Q' : VK} {f : Sl → Hh → Res D}
theorem tA.mono (o : tA K W vs us f sg H Q) (hq : ∀ u H, Q u H → Q' u H) : tA K W vs us f sg H Q' := by
  obtain ⟨mu, Z, h, s, sr, sl, rp, o⟩ := o
  exact ⟨mu, Z, h, s, sr, sl, rp, Out.mono (Stp.refl _ _ _) o fun _ _ _ _ _ _ q u r => hq _ _ (q u r)⟩
end
/-- the combinators -/
def mV (i : Nat) : EM := fun s h => match s[i]? with
  | some (some v) => .ok v h
  | _ => .bad
def mC (v : D) : EM := fun _ h => .ok v h
def m1 (f : D → Hh → Res D) (fa : EM) : EM := fun s h => (fa s h).bind f
def m2 (f : D → D → Hh → Res D) (fa fb : EM) : EM := fun s h => (fa s h).bind fun x h1 => (fb s h1).bind fun y h2 => f x y h2
section
variable {W : WXx} {X : Cx} {a b c : Expr} {fa fb fc : EM} {pos : Pos}
theorem se_var (i : Nat) {x : Str} (hN : X.N[i]? = some x := by rfl) (hv : Vis X.env.scope x := by first | exact Or.inl rfl | exact Or.inr (Or.inl rfl) | exact Or.inr (Or.inr rfl)) (hd : (x == ("__debug__" : Str)) = false := by decide)
    (hcd : (x == ("__classdict__" : Str)) = false := by decide) : SE W X (.Name x pos) (mV i) := PE.imp (pe_var hN hv hd hcd) fun sg H Q o => by
  obtain ⟨mu, Z, h, s, sr, sl, _, o⟩ := o
  unfold mV at o
  split at o
  · rename_i v e
    obtain ⟨u, e1, r⟩ := sl.at_ _ _ e
    exact ⟨u, e1, Out.val sr rfl r o⟩
  · exact o.elim
/-- a value that is known to lie -/
theorem tE.const {v : D} {u : V} {sg : L2.St} {H : Hp} {Q : VK} (r : ∀ mu Z, Sub Z H → Rep X.K mu Z v u) (o : tE X.K W (mC v) sg H Q) : Q u H := by
  obtain ⟨mu, Z, h, s, sr, sl, _, o⟩ := o
  exact Out.val sr rfl (r mu Z sr.zin) o
theorem se_int {i : Int} {j : Nat} : SE W X (.Constant (.int i) j pos) (mC (.int i)) := PE.imp pe_int fun _ _ _ o => tE.const (fun _ _ _ => .int i) o
theorem se_bl {i : Bool} {j : Nat} : SE W X (.Constant (.bool i) j pos) (mC (.bl i)) := PE.imp pe_bl fun _ _ _ o => tE.const (fun _ _ _ => .bl i) o
theorem se_non {j : Nat} : SE W X (.Constant .none j pos) (mC .non) := PE.imp pe_non fun _ _ _ o => tE.const (fun _ _ _ => .non) o
def sOkB (x : Str) : Bool := PyData.strOk x && decide (x.length ≤ 100000)
theorem sOk_of {x : Str} (h : sOkB x = true) : SOk x := by
  unfold sOkB at h
  simp only [Bool.and_eq_true, decide_eq_true_eq] at h
  exact ⟨h.1, Nat.le_trans h.2 (by decide)⟩
theorem se_str {x : Str} {j : Nat} (h : sOkB x = true := by decide +kernel) : SE W X (.Constant (.str x) j pos) (mC (.str x)) := PE.imp pe_str fun _ _ _ o => tE.const (fun _ _ _ => .str (sOk_of h)) o
/-- a name of the module -/
theorem se_glob {x : Str} {d : D} {v : V} {u : Value} (hg : Gl X x) (hm : X.mg x = some u) (r : RelV v u) (rp : ∀ mu Z, Rep X.K mu Z d v) (hd : (x == ("__debug__" : Str)) = false := by decide) : SE W X (.Name x pos) (mC d) :=
  PE.imp (pe_glob hg hm r hd) fun _ _ _ o => tE.const (fun _ _ _ => rp _ _) o
theorem se_bltn {x : Str} {n : String} {u : Value} (hg : Gl X x) (hm : X.mg x = none) (hv : bootBuiltins x = some u) (r : RelV (.ty n) u) (hn : x ≠ "__name__" := by decide) (hd : (x == ("__debug__" : Str)) = false := by decide) : SE W X (.Name x pos) (mC (.ty n)) :=
  PE.imp (pe_bltn hg hm hv r hn hd) fun _ _ _ o => tE.const (fun _ _ _ => .ty n) o

theorem seq2 {K : PySem.W.Frag} {f : D → D → Hh → Res D} {r : R2} (h2 : Op2 K r f) {sg : L2.St} {H : Hp} {Q : VK} (o : tE K W (m2 f fa fb) sg H Q) : tOp r (tE K W fa) (tE K W fb) sg H Q := by
  refine tA.mono (tA.seq (k := fun x s h => (fb s h).bind fun y h2 => f x y h2) o) fun u H1 q => ?_
  obtain ⟨x, q⟩ := q
  refine tA.mono (tA.seq (k := fun y _ h2 => f x y h2) q) fun v H2 q2 => ?_
  obtain ⟨y, q2⟩ := q2
  exact h2 W x y u v sg H2 Q q2
theorem se_bin {op : Operator} {r : R2} {f : D → D → Hh → Res D} (ho : OpR X (binaryOp op) r) (h2 : Op2 X.K r f) (ha : SE W X a fa) (hb : SE W X b fb) : SE W X (.BinOp a op b pos) (m2 f fa fb) :=
  PE.imp (pe_op ho ha hb) fun _ _ _ o => seq2 h2 o
theorem se_cmp {op : CmpOp} {r : R2} {f : D → D → Hh → Res D} (ho : OpR X (compareOp op) r) (h2 : Op2 X.K r f) (ha : SE W X a fa) (hb : SE W X b fb) (hm : behindInMarks op b = false := by rfl) : SE W X (.Compare a [op] [b] pos) (m2 f fa fb) :=
  PE.imp (pe_cmpR ho ha hb hm) fun _ _ _ o => seq2 h2 o
end

/-! ### operators -/
theorem str_app_ok {a b : Str} (ha : SOk a) (hb : SOk b) (hl : a.length + b.length ≤ sizeLine) : SOk (a ++ b) := by
  obtain ⟨h1, _⟩ := ha
  obtain ⟨h2, _⟩ := hb
  have e : (a ++ b).cps = a.cps ++ b.cps := rfl
  refine ⟨?_, ?_⟩
  · unfold PyData.strOk at *
    rw [e]
    simp_all
  · show (a ++ b).cps.size ≤ sizeLine
    rw [e]
    simpa [Str.length] using hl
def addOp (hp : Bool) (x y : D) (h : Hh) : Res D := match x, y with
  | .int i, .int j => .ok (.int (i + j)) h
  | .str a, .str b => if a.length + b.length ≤ sizeLine then .ok (.str (a ++ b)) h else .bad
  | .tup xs, .tup ys => if xs.length + ys.length ≤ sizeLine then .ok (.tup (xs ++ ys)) h else .bad
  | x, y => match lsOf h x, lsOf h y with
    | some xs, some ys => if xs.length + ys.length ≤ sizeLine then mkL hp (xs ++ ys) h else .bad
    | _, _ => .bad
def rInt2 (g : Int → Int → V) : R2 := rI0 g
def rAddD (K : PySem.W.Frag) : R2 := fun x y H Q => (rI0 fun i j => .int (i + j)) x y H Q ∨ ((fun x y H Q => ∃ i j, x = .str i ∧ y = .str j ∧ i.length + j.length ≤ sizeLine ∧ Q (.str (i ++ j)) H : R2) x y H Q ∨ (rCatF K x y H Q ∨ rCat x y H Q))
theorem op_addD {X : Cx} : OpR X (binaryOp .Add) (rAddD X.K) := OpR.or op_add (OpR.or op_add_str (OpR.or op_catF op_cat))
section
variable {K : PySem.W.Frag}
theorem addL {hp : Bool} {mu : List Addr} {Z H : Hp} {h : Hh} {x y : D} {u v : V} {W : Value → Option Addr → Hp → Prop} {Q : VK} (sr : SR K mu Z H h) (rx : Rep K mu Z x u) (ry : Rep K mu Z y v)
    (o : Out K mu Z H (match lsOf h x, lsOf h y with
      | some xs, some ys => if xs.length + ys.length ≤ sizeLine then mkL hp (xs ++ ys) h else .bad
      | _, _ => .bad) W fun v mu' Z' H' _ => ∀ u, Rep K mu' Z' v u → Q u H') : rCat u v H Q := by
  split at o
  · rename_i xs ys e1 e2
    split at o
    · rename_i hl
      obtain ⟨a, vs, rfl, q1, p1⟩ := sr.ls rx e1
      obtain ⟨b, ws, rfl, q2, p2⟩ := sr.ls ry e2
      refine ⟨a, b, vs, ws, rfl, rfl, q1, q2, by rw [← p1.length, ← p2.length]; exact hl, fun p hp => ?_⟩
      exact sr.newL (p1.append p2) (by simpa using hl) hp o
    · exact o.elim
  · exact o.elim
theorem op2_add {hp : Bool} : Op2 K (rAddD K) (addOp hp) := by
  intro W x y u v sg H Q o
  replace o := o.open2
  obtain ⟨mu, Z, h, s, sr, sl, rx, ry, o⟩ := o
  unfold addOp at o
  split at o
  · rename_i i j
    cases rx
    cases ry
    exact .inl ⟨i, j, rfl, rfl, Out.val sr rfl (.int _) o⟩
  · rename_i i j
    split at o
    · rename_i hl
      cases rx with
      | str h1 =>
        cases ry with
        | str h2 => exact .inr (.inl ⟨i, j, rfl, rfl, hl, Out.val sr rfl (.str (str_app_ok h1 h2 hl)) o⟩)
    · exact o.elim
  · rename_i xs ys
    split at o
    · rename_i hl
      cases rx with
      | tup q1 p1 l1 =>
        cases ry with
        | tup q2 p2 l2 =>
          refine .inr (.inr (.inl ⟨_, _, _, _, rfl, rfl, (sr.zin.tupZ q1).sq, (sr.zin.tupZ q2).sq, by rw [← p1.length, ← p2.length]; exact hl, fun e => ?_, fun _ e => ?_, fun _ _ => ?_⟩))
          · subst e
            cases p1
            exact Out.val sr rfl (.tup q2 p2 l2) o
          · subst e
            cases p2
            exact Out.val sr rfl (.tup q1 (by simpa using p1) (by simpa using l1)) o
          · exact sr.newT (p1.append p2) (by simpa using hl) o
    · exact o.elim
  · exact .inr (.inr (.inr (addL sr rx ry o)))
def int2 (g : Int → Int → D) (x y : D) (h : Hh) : Res D := match x, y with
  | .int i, .int j => .ok (g i j) h
  | _, _ => .bad
def int2c (c : Int → Int → Bool) (g : Int → Int → D) (x y : D) (h : Hh) : Res D := match x, y with
  | .int i, .int j => if c i j = true then .ok (g i j) h else .bad
  | _, _ => .bad
theorem op2_int {g : Int → Int → Int} : Op2 K (rI0 fun i j => .int (g i j)) (int2 fun i j => .int (g i j)) := by
  intro W x y u v sg H Q o
  replace o := o.open2
  obtain ⟨mu, Z, h, s, sr, sl, rx, ry, o⟩ := o
  unfold int2 at o
  split at o
  · rename_i i j
    cases rx
    cases ry
    exact ⟨i, j, rfl, rfl, Out.val sr rfl (.int _) o⟩
  · exact o.elim
theorem op2_intB {g : Int → Int → Bool} : Op2 K (rI0 fun i j => .bl (g i j)) (int2 fun i j => .bl (g i j)) := by
  intro W x y u v sg H Q o
  replace o := o.open2
  obtain ⟨mu, Z, h, s, sr, sl, rx, ry, o⟩ := o
  unfold int2 at o
  split at o
  · rename_i i j
    cases rx
    cases ry
    exact ⟨i, j, rfl, rfl, Out.val sr rfl (.bl _) o⟩
  · exact o.elim
theorem op2_intc {c : Int → Int → Bool} {C : Int → Int → Prop} {g : Int → Int → Int} (hc : ∀ i j, c i j = true → C i j) : Op2 K (rI C fun i j => .int (g i j)) (int2c c fun i j => .int (g i j)) := by
  intro W x y u v sg H Q o
  replace o := o.open2
  obtain ⟨mu, Z, h, s, sr, sl, rx, ry, o⟩ := o
  unfold int2c at o
  split at o
  · rename_i i j
    split at o
    · rename_i hl
      cases rx
      cases ry
      exact ⟨i, j, rfl, rfl, hc i j hl, Out.val sr rfl (.int _) o⟩
    · exact o.elim
  · exact o.elim
def cMul (i j : Int) : Bool := (decide (-(2 ^ 64) < i) && decide (i < 2 ^ 64)) || (decide (-(2 ^ 64) < j) && decide (j < 2 ^ 64))
def cDiv (i j : Int) : Bool := decide (0 < j) && decide (j < 1073741824)
def cMod (i j : Int) : Bool := decide (0 < j)
def cPow (i j : Int) : Bool := decide (0 ≤ j) && (decide (j ≤ 1000000) && decide (i.natAbs < 2 ^ 64))
def cShr (i j : Int) : Bool := decide (0 ≤ j)
theorem cMul_ok (i j : Int) (h : cMul i j = true) : CMul i j := by
  unfold cMul at h
  simp only [Bool.or_eq_true, Bool.and_eq_true, decide_eq_true_eq] at h
  exact h
theorem cDiv_ok (i j : Int) (h : cDiv i j = true) : CDiv i j := by
  unfold cDiv at h
  simp only [Bool.and_eq_true, decide_eq_true_eq] at h
  exact h
theorem cMod_ok (i j : Int) (h : cMod i j = true) : 0 < j := by
  unfold cMod at h
  simpa using h
theorem cPow_ok (i j : Int) (h : cPow i j = true) : CPow i j := by
  unfold cPow at h
  simp only [Bool.and_eq_true, decide_eq_true_eq] at h
  exact ⟨h.1, h.2.1, h.2.2⟩
theorem cShr_ok (i j : Int) (h : cShr i j = true) : 0 ≤ j := by
  unfold cShr at h
  simpa using h
end
section
variable {W : WXx} {X : Cx} {a b c : Expr} {fa fb fc : EM} {pos : Pos}
theorem se_add (hp : Bool) (ha : SE W X a fa) (hb : SE W X b fb) : SE W X (.BinOp a .Add b pos) (m2 (addOp hp) fa fb) := se_bin op_addD op2_add ha hb
def subOp : D → D → Hh → Res D := int2 fun i j => .int (i - j)
theorem se_sub (ha : SE W X a fa) (hb : SE W X b fb) : SE W X (.BinOp a .Sub b pos) (m2 subOp fa fb) := se_bin op_sub op2_int ha hb
def fdivOp : D → D → Hh → Res D := int2c cDiv fun i j => .int (i / j)
theorem se_fdiv (ha : SE W X a fa) (hb : SE W X b fb) : SE W X (.BinOp a .FloorDiv b pos) (m2 fdivOp fa fb) := se_bin op_fdiv (op2_intc cDiv_ok) ha hb
def modOp : D → D → Hh → Res D := int2c cMod fun i j => .int (i % j)
theorem se_mod (ha : SE W X a fa) (hb : SE W X b fb) : SE W X (.BinOp a .Mod b pos) (m2 modOp fa fb) := se_bin op_mod (op2_intc cMod_ok) ha hb
def powOp : D → D → Hh → Res D := int2c cPow fun i j => .int (i ^ j.toNat)
theorem se_pow (ha : SE W X a fa) (hb : SE W X b fb) : SE W X (.BinOp a .Pow b pos) (m2 powOp fa fb) := se_bin op_pow (op2_intc cPow_ok) ha hb
def shlOp : D → D → Hh → Res D := int2c cPow fun i j => .int (i * 2 ^ j.toNat)
theorem se_shl (ha : SE W X a fa) (hb : SE W X b fb) : SE W X (.BinOp a .LShift b pos) (m2 shlOp fa fb) := se_bin op_shl (op2_intc cPow_ok) ha hb
def shrOp : D → D → Hh → Res D := int2c cShr fun i j => .int (i / 2 ^ j.toNat)
theorem se_shr (ha : SE W X a fa) (hb : SE W X b fb) : SE W X (.BinOp a .RShift b pos) (m2 shrOp fa fb) := se_bin op_shr (op2_intc cShr_ok) ha hb
def andOp : D → D → Hh → Res D := int2 fun i j => .int (Builtin.bitAnd i j)
theorem se_bitand (ha : SE W X a fa) (hb : SE W X b fb) : SE W X (.BinOp a .BitAnd b pos) (m2 andOp fa fb) := se_bin op_and op2_int ha hb
theorem se_eq (hu : X.A.units + 64 < cLine) (ha : SE W X a fa) (hb : SE W X b fb) : SE W X (.Compare a [.Eq] [b] pos) (m2 eqOp fa fb) := se_cmp (op_eqD hu) op2_eq ha hb (nomark _)
theorem se_ne (hu : X.A.units + 64 < cLine) (ha : SE W X a fa) (hb : SE W X b fb) : SE W X (.Compare a [.NotEq] [b] pos) (m2 neOp fa fb) := se_cmp (op_neD hu) op2_ne ha hb (nomark _)
def negOp (x : D) (h : Hh) : Res D := match x with
  | .int i => .ok (.int (-i)) h
  | _ => .bad
theorem se_neg (ha : SE W X a fa) : SE W X (.UnaryOp .USub a pos) (m1 negOp fa) := PE.imp (pe_un un_neg ha) fun sg H Q o => by
  refine tA.mono (tA.seq (k := fun x _ h => negOp x h) o) fun u H1 q => ?_
  obtain ⟨x, q⟩ := q
  replace q := q.open1
  obtain ⟨mu, Z, h, s, sr, sl, rx, o⟩ := q
  unfold negOp at o
  split at o
  · rename_i i
    cases rx
    exact ⟨i, rfl, Out.val sr rfl (.int _) o⟩
  · exact o.elim
end
end TB
end

section
set_option Elab.async false
set_option linter.all false
set_option maxRecDepth 100000
set_option autoImplicit false
set_option maxHeartbeats 1000000
/-! TB4: comparisons, in, is, subscripts, slices, tests, displays. -/
namespace TB
open PySem PySem.Spec PyProof.Rows L2
variable [LC] [LT]

/-! ### order of ints and texts -/
def ltS (a b : Str) : Bool := decide (a.cps.toList < b.cps.toList)
def cmpOp (gi : Int → Int → Bool) (gs : Str → Str → Bool) (x y : D) (h : Hh) : Res D := match x, y with
  | .int i, .int j => .ok (.bl (gi i j)) h
  | .str i, .str j => .ok (.bl (gs i j)) h
  | _, _ => .bad
def rCmp (gi : Int → Int → Bool) (gs : Str → Str → Bool) : R2 := fun x y H Q => (rI0 fun i j => .bl (gi i j)) x y H Q ∨ (fun x y H Q => ∃ i j, x = .str i ∧ y = .str j ∧ Q (.bl (gs i j)) H : R2) x y H Q
theorem op2_cmp {K : PySem.W.Frag} {gi : Int → Int → Bool} {gs : Str → Str → Bool} : Op2 K (rCmp gi gs) (cmpOp gi gs) := by
  intro W x y u v sg H Q o
  replace o := o.open2
  obtain ⟨mu, Z, h, s, sr, sl, rx, ry, o⟩ := o
  unfold cmpOp at o
  split at o
  · rename_i i j
    cases rx
    cases ry
    exact .inl ⟨i, j, rfl, rfl, Out.val sr rfl (.bl _) o⟩
  · rename_i i j
    cases rx
    cases ry
    exact .inr ⟨i, j, rfl, rfl, Out.val sr rfl (.bl _) o⟩
  · exact o.elim
def ltOp : D → D → Hh → Res D := cmpOp (fun i j => decide (i < j)) (fun i j => ltS i j)
def leOp : D → D → Hh → Res D := cmpOp (fun i j => decide (i ≤ j)) (fun i j => !ltS j i)
def gtOp : D → D → Hh → Res D := cmpOp (fun i j => decide (j < i)) (fun i j => ltS j i)
def geOp : D → D → Hh → Res D := cmpOp (fun i j => decide (j ≤ i)) (fun i j => !ltS i j)
theorem op_ltD {X : Cx} : OpR X (compareOp .Lt) (rCmp (fun i j => decide (i < j)) fun i j => ltS i j) := OpR.or op_lt op_lt_str
theorem op_leD {X : Cx} : OpR X (compareOp .LtE) (rCmp (fun i j => decide (i ≤ j)) fun i j => !ltS j i) := OpR.or op_le op_le_str
theorem op_gtD {X : Cx} : OpR X (compareOp .Gt) (rCmp (fun i j => decide (j < i)) fun i j => ltS j i) := OpR.or op_gt op_gt_str
theorem op_geD {X : Cx} : OpR X (compareOp .GtE) (rCmp (fun i j => decide (j ≤ i)) fun i j => !ltS i j) := OpR.or op_ge op_ge_str

/-! ### in -/
/-- a key of a dict -/
def keyOf : D → Option Key
  | .int i => some (.inl i)
  | .str x => some (.inr x)
  | _ => none
def dcOf (h : Hh) : D → Option (List (Key × D))
  | .dic ks => some ks
  | .ref n => match h[n]? with
    | some (.dic ks) => some ks
    | _ => none
  | _ => none
/-- what a dict holds at a key -/
def valD (ks : List (Key × D)) (k : Key) : Option D := (ks.find? fun kv => decide (kv.1 = k)).map (·.2)
def inOp (neg : Bool) (x c : D) (h : Hh) : Res D := match sqOf h c with
  | some xs => if (okD x && okDs xs) = true then .ok (.bl (neg != xs.any fun z => eqv z x)) h else .bad
  | none => match dcOf h c, keyOf x with
    | some ks, some k => .ok (.bl (neg != (valD ks k).isSome)) h
    | _, _ => match x, c with
      | .str a, .str b => .ok (.bl (neg != !(Builtin.Str.occurrences b a 0 b.length 1).isEmpty)) h
      | _, _ => .bad
section
variable {K : PySem.W.Frag} {mu : List Addr} {Z H : Hp} {h : Hh} {d : D} {v : V}
theorem valD_rep : ∀ {ks : List (Key × D)} {kvs : List (Key × V)}, ks.map (·.1) = kvs.map (·.1) → Reps K mu Z (ks.map (·.2)) (kvs.map (·.2)) → ∀ k, (valD ks k = none ∧ valV kvs k = none) ∨ ∃ d v, valD ks k = some d ∧ valV kvs k = some v ∧ Rep K mu Z d v
  | [], [], _, _, k => .inl ⟨rfl, rfl⟩
  | [], _ :: _, e, _, _ => by simp at e
  | _ :: _, [], e, _, _ => by simp at e
  | (a, d) :: ks, (b, v) :: kvs, e, r, k => by
    simp only [List.map_cons, List.cons.injEq] at e
    simp only [List.map_cons] at r
    cases r with
    | cons r1 rs =>
      obtain ⟨e1, e2⟩ := e
      subst e1
      by_cases hk : a = k
      · subst hk
        exact .inr ⟨d, v, by simp [valD], by simp [valV], r1⟩
      · rcases valD_rep e2 rs k with ⟨q1, q2⟩ | ⟨d', v', q1, q2, q3⟩
        · exact .inl ⟨by simpa [valD, List.find?_cons, hk] using q1, by simpa [valV, List.find?_cons, hk] using q2⟩
        · exact .inr ⟨d', v', by simpa [valD, List.find?_cons, hk] using q1, by simpa [valV, List.find?_cons, hk] using q2, q3⟩
theorem SR.dc (sr : SR K mu Z H h) (r : Rep K mu Z d v) {ks : List (Key × D)} (e : dcOf h d = some ks) : ∃ a kvs, v = .ref a ∧ Rd H a (.dK kvs) ∧ ks.map (·.1) = kvs.map (·.1) ∧ ((∀ k, k ∈ ks.map (·.1) → KOk k) ∧ ks.length ≤ sizeLine) ∧ Reps K mu Z (ks.map (·.2)) (kvs.map (·.2)) := by
  cases d with
  | dic ys =>
    cases r with
    | dic q e1 k rp =>
      simp only [dcOf, Option.some.injEq] at e
      subst e
      exact ⟨_, _, rfl, .inr ⟨_, sr.zin _ _ q⟩, e1, k, rp⟩
  | ref n =>
    simp only [dcOf] at e
    split at e
    · rename_i ys q
      cases e
      obtain ⟨a, rfl, _, kvs, e2, e3, k, rp⟩ := sr.cellAt q r
      exact ⟨a, kvs, rfl, .inl e2, e3, k, rp⟩
    · cases e
  | _ => simp [dcOf] at e
theorem keyOf_rep {k : Key} (r : Rep K mu Z d v) (e : keyOf d = some k) : v = kV k := by
  cases d with
  | int i => cases r; simp [keyOf] at e; subst e; rfl
  | str x => cases r; simp [keyOf] at e; subst e; rfl
  | _ => simp [keyOf] at e
theorem any_toPy (x : D) (hx : plain x = true) : ∀ xs : List D, plains xs = true → ((toPys xs).any fun z => PyData.eqv z (toPy x)) = xs.any fun z => eqv z x
  | [], _ => by simp [toPys]
  | y :: ys, hp => by
    simp only [plains, Bool.and_eq_true] at hp
    simp only [toPys, List.any_cons]
    rw [eqv_toPy y x hp.1 hx, any_toPy x hx ys hp.2]
end
section
variable {X : Cx}
def rInT (K : PySem.W.Frag) (neg : Bool) : R2 := fun x y H Q => ∃ d ds, Dp K H x d ∧ Dp K H y (.tuple ds) ∧ SeqAt.shaped d = true ∧ SeqAt.shaped (.tuple ds) = true ∧ Q (.bl (neg != ds.any fun z => PyData.eqv z d)) H
def rInL (K : PySem.W.Frag) (neg : Bool) : R2 := fun x y H Q => ∃ d ds, Dp K H x d ∧ Dp K H y (.list ds) ∧ SeqAt.shaped d = true ∧ SeqAt.shaped (.list ds) = true ∧ Q (.bl (neg != ds.any fun z => PyData.eqv z d)) H
def rInK (neg : Bool) : R2 := fun x y H Q => ∃ a o, y = .ref a ∧ DGet H a x o ∧ Q (.bl (neg != o.isSome)) H
def rInS (neg : Bool) : R2 := fun x y H Q => ∃ i j, x = .str i ∧ y = .str j ∧ Q (.bl (neg != !(Builtin.Str.occurrences j i 0 j.length 1).isEmpty)) H
theorem shaped_tup {ds : List PyData} (h : SeqAt.shaped (.tuple ds) = true) : PyData.canLayAll0 ds = true := by
  have := SeqAt.canLay_of_shaped h
  simpa [PyData.canLay0] using this
theorem room_tup {A : Around} {xs : List PyData} {d : PyData} (hd : SeqAt.shaped d = true) (hu : A.units + 65 < cLine) : A.units + 1 + min (PyData.depthAll xs) d.depth < cLine := by
  have h1 := SeqAt.depth_of_shaped hd
  have h2 : min (PyData.depthAll xs) d.depth ≤ d.depth := Nat.min_le_right _ _
  omega
theorem op_inT (hu : X.A.units + 65 < cLine) : OpR X (compareOp .In) (rInT X.K false) := by
  intro pins s σ H x y v u Q I rx ry h
  obtain ⟨d, ds, hd, he, sd, se, q⟩ := h
  obtain ⟨as, r1⟩ := Dp.reads I d x v hd rx
  obtain ⟨bs, r2⟩ := Dp.reads I (.tuple ds) y u he ry
  exact SeqAt.in_tuple_reads r2 r1 (shaped_tup se) (SeqAt.canLay_of_shaped sd) (room_tup sd hu) ⟨.bl _, H, I, rfl, by simpa using q⟩
theorem op_notInT (hu : X.A.units + 65 < cLine) : OpR X (compareOp .NotIn) (rInT X.K true) := by
  intro pins s σ H x y v u Q I rx ry h
  obtain ⟨d, ds, hd, he, sd, se, q⟩ := h
  obtain ⟨as, r1⟩ := Dp.reads I d x v hd rx
  obtain ⟨bs, r2⟩ := Dp.reads I (.tuple ds) y u he ry
  exact SeqAt.notIn_tuple_reads r2 r1 (shaped_tup se) (SeqAt.canLay_of_shaped sd) (room_tup sd hu) ⟨.bl _, H, I, rfl, by simpa using q⟩
theorem OpR.imp {f : Value → Value → Sem Value} {r r' : R2} (h : OpR X f r) (hi : ∀ x y H Q, r' x y H Q → r x y H Q) : OpR X f r' := fun pins s σ H x y v u Q I rx ry q => h pins s σ H x y v u Q I rx ry (hi _ _ _ _ q)
theorem op_inK (hu : X.A.units + 1 < cLine) : OpR X (compareOp .In) (rInK false) := by
  intro pins s σ H x y v u Q I rx ry h
  obtain ⟨a, o, rfl, g, q⟩ := h
  cases ry
  exact d_in hu I g rx fun s3 I3 => ⟨.bl _, H, I3, rfl, by simpa using q⟩
theorem op_notInK (hu : X.A.units + 1 < cLine) : OpR X (compareOp .NotIn) (rInK true) := by
  intro pins s σ H x y v u Q I rx ry h
  obtain ⟨a, o, rfl, g, q⟩ := h
  cases ry
  exact d_notIn hu I g rx fun s3 I3 => ⟨.bl _, H, I3, rfl, by simpa using q⟩
def rInA (K : PySem.W.Frag) (neg : Bool) : R2 := fun x y H Q => rInT K neg x y H Q ∨ (rInL K neg x y H Q ∨ (rInK neg x y H Q ∨ rInS neg x y H Q))
theorem op_inA (hu : X.A.units + 65 < cLine) : OpR X (compareOp .In) (rInA X.K false) :=
  OpR.or (op_inT hu) (OpR.or (OpR.imp (op_inD hu) fun x y H Q ⟨d, ds, a, b, c, e, q⟩ => ⟨d, ds, a, b, c, e, by simpa using q⟩)
    (OpR.or (op_inK (by omega)) (OpR.imp op_in_str fun x y H Q ⟨i, j, a, b, q⟩ => ⟨i, j, a, b, by simpa using q⟩)))
theorem op_notInA (hu : X.A.units + 65 < cLine) : OpR X (compareOp .NotIn) (rInA X.K true) :=
  OpR.or (op_notInT hu) (OpR.or (OpR.imp (op_notInD hu) fun x y H Q ⟨d, ds, a, b, c, e, q⟩ => ⟨d, ds, a, b, c, e, by simpa using q⟩)
    (OpR.or (op_notInK (by omega)) (OpR.imp op_notin_str fun x y H Q ⟨i, j, a, b, q⟩ => ⟨i, j, a, b, by simpa using q⟩)))
theorem okDs_tup {xs : List D} (h : okDs xs = true) : okD (.tup xs) = true ∧ okD (.lst xs) = true := by
  unfold okDs at h
  simp only [Bool.and_eq_true, decide_eq_true_eq] at h
  unfold okD plain dep
  simp only [Bool.and_eq_true, decide_eq_true_eq]
  exact ⟨⟨h.1, by omega⟩, ⟨h.1, by omega⟩⟩
theorem rdD_plain {h : Hh} {d : D} (hp : plain d = true) : rdD h d = d := by
  cases d <;> first | rfl | simp [plain] at hp
theorem op2_in {neg : Bool} : Op2 X.K (rInA X.K neg) (inOp neg) := by
  intro W x y u v sg H Q o
  replace o := o.open2
  obtain ⟨mu, Z, h, s, sr, sl, rx, ry, o⟩ := o
  unfold inOp at o
  split at o
  · rename_i xs e
    split at o
    · rename_i hc
      obtain ⟨h1, h2⟩ := Bool.and_eq_true_iff.mp hc
      have hpx := okD_plain h1
      obtain ⟨dx, sx⟩ := sr.shaped rx (by rw [rdD_plain hpx]; exact h1)
      rw [rdD_plain hpx] at dx sx
      have hps : plains xs = true := by
        unfold okDs at h2
        simp only [Bool.and_eq_true] at h2
        exact h2.1
      obtain ⟨a, vs, rfl, hq, rp⟩ := sr.sq ry e
      obtain ⟨q1, q2⟩ := rp.dp sr.zin hps
      have shp : ∀ d : D, okD d = true → (toPy d).canLay0 = true → SeqAt.shaped (toPy d) = true := fun d hd hc => by
        unfold okD at hd
        simp only [Bool.and_eq_true, decide_eq_true_eq] at hd
        unfold SeqAt.shaped
        rw [hc, dep_toPy d hd.1]
        simpa using hd.2
      have fin : Q (.bl (neg != (toPys xs).any fun z => PyData.eqv z (toPy x))) H := by
        rw [any_toPy x hpx xs hps]
        exact Out.val sr rfl (.bl _) o
      rcases hq with hq | hq
      · exact .inr (.inl ⟨_, _, dx, .lst hq q1, sx, by have := shp (.lst xs) (okDs_tup h2).2 (by simpa [toPy, PyData.canLay0] using q2); simpa [toPy] using this, fin⟩)
      · exact .inl ⟨_, _, dx, .tup hq q1, sx, by have := shp (.tup xs) (okDs_tup h2).1 (by simpa [toPy, PyData.canLay0] using q2); simpa [toPy] using this, fin⟩
    · exact o.elim
  · split at o
    · rename_i ks k e1 e2
      obtain ⟨a, kvs, rfl, hd, ek, _, rp⟩ := sr.dc ry e1
      have ev := keyOf_rep rx e2
      refine .inr (.inr (.inl ⟨a, valV kvs k, rfl, .inl ⟨kvs, k, hd, ev, rfl⟩, ?_⟩))
      have en : (valV kvs k).isSome = (valD ks k).isSome := by
        rcases valD_rep ek rp k with ⟨q1, q2⟩ | ⟨d, v, q1, q2, _⟩
        · rw [q1, q2]; rfl
        · rw [q1, q2]; rfl
      rw [en]
      exact Out.val sr rfl (.bl _) o
    · split at o
      · rename_i a b _ _
        cases rx
        cases ry
        exact .inr (.inr (.inr ⟨a, b, rfl, rfl, Out.val sr rfl (.bl _) o⟩))
      · exact o.elim

/-! ### is -/
def isN : D → Bool
  | .non => true
  | _ => false
def isOp (neg : Bool) (x y : D) (h : Hh) : Res D := match y with
  | .non => .ok (.bl (neg != isN x)) h
  | .bl b => match x with
    | .bl a => .ok (.bl (neg != decide (a = b))) h
    | _ => .bad
  | _ => .bad
def rIsA (neg : Bool) : R2 := fun x y H Q => (y = .non ∧ Q (.bl (neg != decide (x = .non))) H) ∨ ∃ a b : Bool, x = .bl a ∧ y = .bl b ∧ Q (.bl (neg != decide (a = b))) H
theorem op_isA : OpR X (compareOp .Is) (rIsA false) := OpR.imp (OpR.or op_isN op_isBl) fun x y H Q q => by
  rcases q with ⟨a, q⟩ | ⟨a, b, e1, e2, q⟩
  · exact .inl ⟨a, by simpa using q⟩
  · exact .inr ⟨a, b, e1, e2, by simpa using q⟩
theorem op_isNotA : OpR X (compareOp .IsNot) (rIsA true) := OpR.imp (OpR.or op_notN op_notBl) fun x y H Q q => by
  rcases q with ⟨a, q⟩ | ⟨a, b, e1, e2, q⟩
  · exact .inl ⟨a, by simpa using q⟩
  · exact .inr ⟨a, b, e1, e2, by simpa using q⟩
theorem isN_rep {K : PySem.W.Frag} {mu : List Addr} {Z : Hp} {d : D} {v : V} (r : Rep K mu Z d v) : isN d = decide (v = .non) := by
  cases r <;> simp [isN]
theorem op2_is {neg : Bool} : Op2 X.K (rIsA neg) (isOp neg) := by
  intro W x y u v sg H Q o
  replace o := o.open2
  obtain ⟨mu, Z, h, s, sr, sl, rx, ry, o⟩ := o
  unfold isOp at o
  split at o
  · cases ry
    refine .inl ⟨rfl, ?_⟩
    rw [← isN_rep rx]
    exact Out.val sr rfl (.bl _) o
  · split at o
    · cases rx
      cases ry
      exact .inr ⟨_, _, rfl, rfl, Out.val sr rfl (.bl _) o⟩
    · exact o.elim
  · exact o.elim
end

section
variable {W : WXx} {X : Cx} {a b c : Expr} {fa fb fc : EM} {pos : Pos}
theorem se_lt (ha : SE W X a fa) (hb : SE W X b fb) : SE W X (.Compare a [.Lt] [b] pos) (m2 ltOp fa fb) := se_cmp op_ltD op2_cmp ha hb (nomark _)
theorem se_le (ha : SE W X a fa) (hb : SE W X b fb) : SE W X (.Compare a [.LtE] [b] pos) (m2 leOp fa fb) := se_cmp op_leD op2_cmp ha hb (nomark _)
theorem se_gt (ha : SE W X a fa) (hb : SE W X b fb) : SE W X (.Compare a [.Gt] [b] pos) (m2 gtOp fa fb) := se_cmp op_gtD op2_cmp ha hb (nomark _)
theorem se_ge (ha : SE W X a fa) (hb : SE W X b fb) : SE W X (.Compare a [.GtE] [b] pos) (m2 geOp fa fb) := se_cmp op_geD op2_cmp ha hb (nomark _)
theorem se_in (hu : X.A.units + 65 < cLine) (ha : SE W X a fa) (hb : SE W X b fb) (hm : behindInMarks .In b = false := by rfl) : SE W X (.Compare a [.In] [b] pos) (m2 (inOp false) fa fb) := se_cmp (op_inA hu) op2_in ha hb hm
theorem se_notIn (hu : X.A.units + 65 < cLine) (ha : SE W X a fa) (hb : SE W X b fb) (hm : behindInMarks .NotIn b = false := by rfl) : SE W X (.Compare a [.NotIn] [b] pos) (m2 (inOp true) fa fb) := se_cmp (op_notInA hu) op2_in ha hb hm
theorem se_is (ha : SE W X a fa) (hb : SE W X b fb) : SE W X (.Compare a [.Is] [b] pos) (m2 (isOp false) fa fb) := se_cmp op_isA op2_is ha hb (nomark _)
theorem se_isNot (ha : SE W X a fa) (hb : SE W X b fb) : SE W X (.Compare a [.IsNot] [b] pos) (m2 (isOp true) fa fb) := se_cmp op_isNotA op2_is ha hb (nomark _)
end
end TB
end

section
set_option Elab.async false
set_option linter.all false
set_option maxRecDepth 100000
set_option autoImplicit false
set_option maxHeartbeats 1000000
/-! TB5: readings of any type; tests, and, or, not, if; subscripts, slices; displays. -/
namespace TB
open PySem PySem.Spec PyProof.Rows L2
variable [LC] [LT]

/-! ### readings whose result is of any type -/
def tR (K : PySem.W.Frag) (W : WXx) {α : Type} (f : Sl → Hh → Res α) (sg : L2.St) (H : Hp) (P : α → List Addr → Hp → Hp → Prop) : Prop :=
  ∃ mu Z h s, SR K mu Z H h ∧ SltR K mu Z s sg ∧ Out K mu Z H (f s h) (fun c d H' => W c d sg H') fun v mu' Z' H' _ => P v mu' Z' H'
section
variable {K : PySem.W.Frag} {W : WXx} {vs : List D} {us : List V} {sg : L2.St} {H : Hp} {Q : VK} {α : Type}
theorem tR.mono {f : Sl → Hh → Res α} {P P' : α → List Addr → Hp → Hp → Prop} (o : tR K W f sg H P) (hp : ∀ a mu Z H, P a mu Z H → P' a mu Z H) : tR K W f sg H P' := by
  obtain ⟨mu, Z, h, s, sr, sl, o⟩ := o
  exact ⟨mu, Z, h, s, sr, sl, Out.mono (Stp.refl _ _ _) o fun _ _ _ _ _ _ q => hp _ _ _ _ q⟩
theorem tA.seqG {f : Sl → Hh → Res α} {k : α → Sl → Hh → Res D} (o : tA K W vs us (fun s h => (f s h).bind fun v h' => k v s h') sg H Q) :
    tR K W f sg H fun a mu1 Z1 H1 => ∀ xs ws, Reps K mu1 Z1 xs ws → tA K W (xs ++ vs) (ws ++ us) (k a) sg H1 Q := by
  obtain ⟨mu, Z, h, s, sr, sl, rp, o⟩ := o
  refine ⟨mu, Z, h, s, sr, sl, ?_⟩
  cases e : f s h with
  | ok v h1 =>
    simp only [e, Res.bind_ok] at o
    exact fun mu1 Z1 H1 sr1 p1 xs ws rx => ⟨mu1, Z1, h1, s, sr1, sl.mono p1, rx.append (p1.reps rp), Out.mono p1 o fun _ _ _ _ _ _ q => q⟩
  | ex x h1 =>
    simp only [e, Res.bind_ex] at o
    exact o
  | bad =>
    simp only [e, Res.bind_bad] at o
    exact o.elim
theorem tR.seqG {β : Type} {f : Sl → Hh → Res α} {k : α → Sl → Hh → Res β} {P : β → List Addr → Hp → Hp → Prop} (o : tR K W (fun s h => (f s h).bind fun v h' => k v s h') sg H P) :
    tR K W f sg H fun a mu1 Z1 H1 => tR K W (k a) sg H1 P := by
  obtain ⟨mu, Z, h, s, sr, sl, o⟩ := o
  refine ⟨mu, Z, h, s, sr, sl, ?_⟩
  cases e : f s h with
  | ok v h1 =>
    simp only [e, Res.bind_ok] at o
    exact fun mu1 Z1 H1 sr1 p1 => ⟨mu1, Z1, h1, s, sr1, sl.mono p1, Out.mono p1 o fun _ _ _ _ _ _ q => q⟩
  | ex x h1 =>
    simp only [e, Res.bind_ex] at o
    exact o
  | bad =>
    simp only [e, Res.bind_bad] at o
    exact o.elim
/-- an expression's value, then more of another type; its value waits -/
def tB2 (K : PySem.W.Frag) (W : WXx) (vs : List D) (us : List V) {α : Type} (f : Sl → Hh → Res α) (sg : L2.St) (H : Hp) (P : α → List Addr → Hp → Hp → Prop) : Prop :=
  ∃ mu Z h s, SR K mu Z H h ∧ SltR K mu Z s sg ∧ Reps K mu Z vs us ∧ Out K mu Z H (f s h) (fun c d H' => W c d sg H') fun v mu' Z' H' _ => P v mu' Z' H'
theorem tR.seqE {f : EM} {k : D → Sl → Hh → Res α} {P : α → List Addr → Hp → Hp → Prop} (o : tR K W (fun s h => (f s h).bind fun v h' => k v s h') sg H P) :
    tE K W f sg H fun u H1 => ∃ v, tB2 K W [v] [u] (k v) sg H1 P := by
  obtain ⟨mu, Z, h, s, sr, sl, o⟩ := o
  refine ⟨mu, Z, h, s, sr, sl, .nil, ?_⟩
  cases e : f s h with
  | ok v h1 =>
    simp only [e, Res.bind_ok] at o
    exact fun mu1 Z1 H1 sr1 p1 u ru => ⟨v, mu1, Z1, h1, s, sr1, sl.mono p1, .cons ru .nil, Out.mono p1 o fun _ _ _ _ _ _ q => q⟩
  | ex x h1 =>
    simp only [e, Res.bind_ex] at o
    exact o
  | bad =>
    simp only [e, Res.bind_bad] at o
    exact o.elim
theorem tE.of_tR {f : EM} (o : tR K W f sg H fun v mu' Z' H' => ∀ u, Rep K mu' Z' v u → Q u H') : tE K W f sg H Q := by
  obtain ⟨mu, Z, h, s, sr, sl, o⟩ := o
  exact ⟨mu, Z, h, s, sr, sl, .nil, o⟩
theorem tE.tR {f : EM} (o : tE K W f sg H Q) : TB.tR K W f sg H fun v mu' Z' H' => ∀ u, Rep K mu' Z' v u → Q u H' := by
  obtain ⟨mu, Z, h, s, sr, sl, _, o⟩ := o
  exact ⟨mu, Z, h, s, sr, sl, o⟩
end
def tT (K : PySem.W.Frag) (W : WXx) (f : TM) : TT := fun sg H Q => tR K W f sg H fun b _ _ H' => Q b H'
/-- f is what the test e gives -/
def ST (W : WXx) (X : Cx) (e : Expr) (f : TM) : Prop := PT X e (tT X.K W f)
def STw (W : WXx) (X : Cx) (e : Expr) (f : TM) : Prop := PW X e (tT X.K W f)
theorem PW.imp {X : Cx} {e : Expr} {t t' : TT} (h : PW X e t) (hi : ∀ sg H Q, t' sg H Q → t sg H Q) : PW X e t' := ⟨fun w pins s σ H Q I q => h.run w pins s σ H Q I (hi _ _ _ q)⟩

/-! ### truth -/
def TruA (K : PySem.W.Frag) (x : V) (H : Hp) (k : Bool) : Prop := TruV K x H k ∨ ∃ a kvs, x = .ref a ∧ Rd H a (.dK kvs) ∧ k = !kvs.isEmpty
theorem tru_A {X : Cx} : TruR X (fun x H Q => ∃ k, TruA X.K x H k ∧ Q k H) := by
  intro pins s σ H x v Q I rx h
  obtain ⟨k, h, q⟩ := h
  rcases h with h | ⟨a, kvs, rfl, hd, rfl⟩
  · exact tru_ok pins s σ H x v Q I rx ⟨k, h, q⟩
  · cases rx
    exact d_truth I hd fun s' I' => ⟨H, I', q⟩
def truOp (x : D) (h : Hh) : Res Bool := match x with
  | .non => .ok false h
  | .bl b => .ok b h
  | .int i => .ok (i != 0) h
  | .str x => .ok ((x.length : Int) != 0) h
  | x => match sqOf h x with
    | some xs => .ok (!xs.isEmpty) h
    | none => match dcOf h x with
      | some ks => .ok (!ks.isEmpty) h
      | none => .bad
theorem isEmpty_len {α β : Type} {xs : List α} {ys : List β} (h : xs.length = ys.length) : xs.isEmpty = ys.isEmpty := by
  cases xs <;> cases ys <;> simp_all
section
variable {K : PySem.W.Frag} {mu : List Addr} {Z H : Hp} {h : Hh} {d : D} {v : V}
theorem SR.tru (sr : SR K mu Z H h) (r : Rep K mu Z d v) {k : Bool} {h' : Hh} (e : truOp d h = .ok k h') : h' = h ∧ TruA K v H k := by
  unfold truOp at e
  split at e
  · cases r; cases e; exact ⟨rfl, .inl rfl⟩
  · cases r; cases e; exact ⟨rfl, .inl rfl⟩
  · cases r; cases e; exact ⟨rfl, .inl rfl⟩
  · cases r with
    | str hs => cases e; exact ⟨rfl, .inl ⟨hs.len, rfl⟩⟩
  · split at e
    · rename_i xs q
      obtain ⟨a, vs, rfl, hq, rp⟩ := sr.sq r q
      cases e
      refine ⟨rfl, .inl ?_⟩
      rcases hq with hq | hq
      · exact .inl ⟨vs, hq, by rw [isEmpty_len rp.length]⟩
      · exact .inr (.inl ⟨vs, hq, by rw [isEmpty_len rp.length]⟩)
    · split at e
      · rename_i ks q
        obtain ⟨a, kvs, rfl, hq, ek, _, rp⟩ := sr.dc r q
        cases e
        have hl : ks.length = kvs.length := by have := congrArg List.length ek; simpa using this
        exact ⟨rfl, .inr ⟨a, kvs, rfl, hq, by rw [isEmpty_len hl]⟩⟩
      · cases e
end
section
variable {W : WXx} {X : Cx} {a b c e : Expr} {fa fb fc : EM} {ft fu : TM} {pos : Pos} {rest : List Expr}
theorem tB2.tru {v : D} {u : V} {sg : L2.St} {H : Hp} {P : Bool → List Addr → Hp → Hp → Prop} {K : PySem.W.Frag} (o : tB2 K W [v] [u] (fun _ h => truOp v h) sg H P) : ∃ k, TruA K u H k ∧ ∃ mu Z, P k mu Z H := by
  obtain ⟨mu, Z, h, s, sr, sl, rp, o⟩ := o
  cases rp with
  | cons r _ =>
    cases e : truOp v h with
    | ok k h' =>
      obtain ⟨e1, t⟩ := sr.tru r e
      simp only [e] at o
      exact ⟨k, t, _, _, o mu Z H (by rw [e1]; exact sr) (Stp.refl _ _ _)⟩
    | ex x h' => exfalso; unfold truOp at e; repeat (first | (split at e) | cases e)
    | bad => simp only [e] at o; exact o.elim
/-- the truth of a value -/
def mTru (fa : EM) : TM := fun s h => (fa s h).bind fun v h1 => truOp v h1
theorem pt_truA {ta : TE} (ha : PE X a ta) (he : ∀ whole, isTrue a X.env whole = (do let v ← whole; standAt a.pos; holding [v] (truthy v))) : PT X a (fun σ H Q => ta σ H fun x H' => ∃ k, TruA X.K x H' k ∧ Q k H') := by
  refine ⟨fun pins s σ H Q I h => ?_⟩
  exact isTrue_plain (thn (ha.run pins s σ H _ I h) fun v s1 ⟨x, H1, I1, r1, q1⟩ => tru_A pins s1 σ H1 x v Q I1 r1 q1) (he _)
theorem seqTru {sg : L2.St} {H : Hp} {Q : Bool → Hp → Prop} {K : PySem.W.Frag} (o : tT K W (mTru fa) sg H Q) : tE K W fa sg H fun x H' => ∃ k, TruA K x H' k ∧ Q k H' := by
  refine tA.mono (tR.seqE (k := fun v _ h => truOp v h) o) fun u H1 ⟨v, q⟩ => ?_
  obtain ⟨k, t, _, _, q⟩ := q.tru
  exact ⟨k, t, q⟩
/-- any expression whose test is its value's truth -/
theorem st_of (ha : SE W X a fa) (he : ∀ whole, isTrue a X.env whole = (do let v ← whole; standAt a.pos; holding [v] (truthy v)) := by intro _; rfl) : ST W X a (mTru fa) :=
  PT.imp (pt_truA ha he) fun _ _ _ o => seqTru o
/-- a test that gives True or False -/
def mB (fa : EM) : TM := fun s h => (fa s h).bind fun v h1 => match v with
  | .bl b => .ok b h1
  | _ => .bad
theorem seqB {sg : L2.St} {H : Hp} {Q : Bool → Hp → Prop} {K : PySem.W.Frag} (o : tT K W (mB fa) sg H Q) : tE K W fa sg H fun x H' => ∃ k, x = .bl k ∧ Q k H' := by
  refine tA.mono (tR.seqE (k := fun v _ h => match v with
    | .bl b => .ok b h
    | _ => .bad) o) fun u H1 ⟨v, q⟩ => ?_
  obtain ⟨mu, Z, h, s, sr, sl, rp, o⟩ := q
  cases rp with
  | cons r _ =>
    split at o
    · rename_i b
      cases r
      exact ⟨b, rfl, o mu Z H1 sr (Stp.refl _ _ _)⟩
    · exact o.elim
theorem st_cmp {op : CmpOp} {r : R2} {f : D → D → Hh → Res D} (ho : OpR X (compareOp op) r) (h2 : Op2 X.K r f) (ha : SE W X a fa) (hb : SE W X b fb) (hm : behindInMarks op b = false := by rfl) : ST W X (.Compare a [op] [b] pos) (mB (m2 f fa fb)) :=
  PT.imp (pt_cmpR ho ha hb hm) fun _ _ _ o => seq2 h2 (seqB o)
theorem st_eq (hu : X.A.units + 64 < cLine) (ha : SE W X a fa) (hb : SE W X b fb) : ST W X (.Compare a [.Eq] [b] pos) (mB (m2 eqOp fa fb)) := st_cmp (op_eqD hu) op2_eq ha hb (nomark _)
theorem st_ne (hu : X.A.units + 64 < cLine) (ha : SE W X a fa) (hb : SE W X b fb) : ST W X (.Compare a [.NotEq] [b] pos) (mB (m2 neOp fa fb)) := st_cmp (op_neD hu) op2_ne ha hb (nomark _)
theorem st_lt (ha : SE W X a fa) (hb : SE W X b fb) : ST W X (.Compare a [.Lt] [b] pos) (mB (m2 ltOp fa fb)) := st_cmp op_ltD op2_cmp ha hb (nomark _)
theorem st_le (ha : SE W X a fa) (hb : SE W X b fb) : ST W X (.Compare a [.LtE] [b] pos) (mB (m2 leOp fa fb)) := st_cmp op_leD op2_cmp ha hb (nomark _)
theorem st_gt (ha : SE W X a fa) (hb : SE W X b fb) : ST W X (.Compare a [.Gt] [b] pos) (mB (m2 gtOp fa fb)) := st_cmp op_gtD op2_cmp ha hb (nomark _)
theorem st_ge (ha : SE W X a fa) (hb : SE W X b fb) : ST W X (.Compare a [.GtE] [b] pos) (mB (m2 geOp fa fb)) := st_cmp op_geD op2_cmp ha hb (nomark _)
theorem st_in (hu : X.A.units + 65 < cLine) (ha : SE W X a fa) (hb : SE W X b fb) (hm : behindInMarks .In b = false := by rfl) : ST W X (.Compare a [.In] [b] pos) (mB (m2 (inOp false) fa fb)) := st_cmp (op_inA hu) op2_in ha hb hm
theorem st_notIn (hu : X.A.units + 65 < cLine) (ha : SE W X a fa) (hb : SE W X b fb) (hm : behindInMarks .NotIn b = false := by rfl) : ST W X (.Compare a [.NotIn] [b] pos) (mB (m2 (inOp true) fa fb)) := st_cmp (op_notInA hu) op2_in ha hb hm
theorem st_is (ha : SE W X a fa) (hb : SE W X b fb) : ST W X (.Compare a [.Is] [b] pos) (mB (m2 (isOp false) fa fb)) := st_cmp op_isA op2_is ha hb (nomark _)
theorem st_isNot (ha : SE W X a fa) (hb : SE W X b fb) : ST W X (.Compare a [.IsNot] [b] pos) (mB (m2 (isOp true) fa fb)) := st_cmp op_isNotA op2_is ha hb (nomark _)
/-- two comparisons in a chain -/
def mCh (f g : D → D → Hh → Res D) (fa fb fc : EM) : EM := fun s h => (fa s h).bind fun x h1 => (fb s h1).bind fun y h2 => (f x y h2).bind fun z h3 => match z with
  | .bl true => (fc s h3).bind fun w h4 => g y w h4
  | .bl false => .ok (.bl false) h3
  | _ => .bad
theorem seqCh {K : PySem.W.Frag} {r r' : R2} {f g : D → D → Hh → Res D} (h2 : Op2 K r f) (h3 : Op2 K r' g) {sg : L2.St} {H : Hp} {Q : VK} (o : tE K W (mCh f g fa fb fc) sg H Q) : tChain r r' (tE K W fa) (tE K W fb) (tE K W fc) sg H Q := by
  refine tA.mono (tA.seq (k := fun x s h => (fb s h).bind fun y h2 => (f x y h2).bind fun z h3 => match z with
    | .bl true => (fc s h3).bind fun w h4 => g y w h4
    | .bl false => .ok (.bl false) h3
    | _ => .bad) o) fun u H1 ⟨x, q⟩ => ?_
  refine tA.mono (tA.seq (k := fun y s h => (f x y h).bind fun z h3 => match z with
    | .bl true => (fc s h3).bind fun w h4 => g y w h4
    | .bl false => .ok (.bl false) h3
    | _ => .bad) q) fun v H2 ⟨y, q2⟩ => ?_
  have q3 := tA.seqG (f := fun _ h => f x y h) (k := fun z s h3 => match z with
    | .bl true => (fc s h3).bind fun w h4 => g y w h4
    | .bl false => .ok (.bl false) h3
    | _ => .bad) q2
  clear q3
  refine h2 W x y u v sg H2 _ ?_
  obtain ⟨mu, Z, h, s, sr, sl, rp, o⟩ := q2
  refine ⟨mu, Z, h, s, sr, sl, rp, ?_⟩
  show Out K mu Z H2 (f x y h) _ _
  cases e : f x y h with
  | bad => simp only [e, Res.bind_bad] at o; exact o
  | ex c d => simp only [e, Res.bind_ex] at o; exact o
  | ok z h3' =>
    simp only [e, Res.bind_ok] at o
    intro mu' Z' H' sr' st' w rw'
    have o' : Out K mu Z H2 (match z with
      | .bl true => (fc s h3').bind fun w h4 => g y w h4
      | .bl false => .ok (.bl false) h3'
      | _ => .bad) (fun c d H' => W c d sg H') fun v mu' Z' H' _ => ∀ u, Rep K mu' Z' v u → Q u H' := o
    split at o'
    · cases rw'
      refine ⟨true, rfl, ?_⟩
      rw [if_pos rfl]
      have o2 : tA K W [y] [v] (fun s h => (fc s h).bind fun w h4 => g y w h4) sg H' Q := by
        cases rp with
        | cons r1 rp =>
          exact ⟨mu', Z', h3', s, sr', sl.mono st', .cons (st'.rep r1) .nil, Out.mono st' o' fun _ _ _ _ _ _ q => q⟩
      refine tA.mono (tA.seq (k := fun w _ h4 => g y w h4) o2) fun t H4 ⟨w, q4⟩ => ?_
      exact h3 W y w v t sg H4 Q q4
    · cases rw'
      refine ⟨false, rfl, ?_⟩
      rw [if_neg Bool.false_ne_true]
      exact o' mu' Z' H' sr' st' _ (.bl false)
    · exact o'.elim
theorem se_chain {op op' : CmpOp} {r r' : R2} {f g : D → D → Hh → Res D} (ho : OpR X (compareOp op) r) (h2 : Op2 X.K r f) (ho' : OpR X (compareOp op') r') (h3 : Op2 X.K r' g) (ha : SE W X a fa) (hb : SE W X b fb) (hc : SE W X c fc)
    (hm : lastMarks [op, op'] [b, c] = false := by with_unfolding_all rfl) : SE W X (.Compare a [op, op'] [b, c] pos) (mCh f g fa fb fc) := PE.imp (pe_chain ho ho' ha hb hc hm) fun _ _ _ o => seqCh h2 h3 o
theorem st_chain {op op' : CmpOp} {r r' : R2} {f g : D → D → Hh → Res D} (ho : OpR X (compareOp op) r) (h2 : Op2 X.K r f) (ho' : OpR X (compareOp op') r') (h3 : Op2 X.K r' g) (ha : SE W X a fa) (hb : SE W X b fb) (hc : SE W X c fc)
    (hm : lastMarks [op, op'] [b, c] = false := by with_unfolding_all rfl) : ST W X (.Compare a [op, op'] [b, c] pos) (mB (mCh f g fa fb fc)) := PT.imp (pt_chain ho ho' ha hb hc hm) fun _ _ _ o => seqCh h2 h3 (seqB o)

/-! ### and, or, not -/
def mAnd (ft fu : TM) : TM := fun s h => (ft s h).bind fun c h1 => if c = true then fu s h1 else .ok false h1
def mOr (ft fu : TM) : TM := fun s h => (ft s h).bind fun c h1 => if c = true then .ok true h1 else fu s h1
def mNot (ft : TM) : TM := fun s h => (ft s h).bind fun c h1 => .ok (!c) h1
theorem stw_and1 (ha : ST W X a ft) : STw W X (.BoolOp .And [a] pos) ft := pw_and1 ha
theorem stw_or1 (ha : ST W X a ft) : STw W X (.BoolOp .Or [a] pos) ft := pw_or1 ha
theorem stw_and (ha : ST W X a ft) (hb : STw W X (.BoolOp .And (b :: rest) pos) fu) : STw W X (.BoolOp .And (a :: b :: rest) pos) (mAnd ft fu) := PW.imp (pw_and ha hb) fun sg H Q o => by
  refine tR.mono (tR.seqG (k := fun c s h => if c = true then fu s h else .ok false h) o) fun c mu Z H1 q => ?_
  cases c with
  | true => exact q
  | false =>
    obtain ⟨mu, Z, h, s, sr, sl, o⟩ := q
    exact o mu Z H1 sr (Stp.refl _ _ _)
theorem stw_or (ha : ST W X a ft) (hb : STw W X (.BoolOp .Or (b :: rest) pos) fu) : STw W X (.BoolOp .Or (a :: b :: rest) pos) (mOr ft fu) := PW.imp (pw_or ha hb) fun sg H Q o => by
  refine tR.mono (tR.seqG (k := fun c s h => if c = true then .ok true h else fu s h) o) fun c mu Z H1 q => ?_
  cases c with
  | false => exact q
  | true =>
    obtain ⟨mu, Z, h, s, sr, sl, o⟩ := q
    exact o mu Z H1 sr (Stp.refl _ _ _)
theorem st_w (h : STw W X a ft) : ST W X a ft := PW.pt h
theorem st_not (ha : ST W X a ft) : ST W X (.UnaryOp .Not a pos) (mNot ft) := PT.imp (pt_not ha) fun sg H Q o => by
  refine tR.mono (tR.seqG (k := fun c _ h => .ok (!c) h) o) fun c mu Z H1 q => ?_
  obtain ⟨mu, Z, h, s, sr, sl, o⟩ := q
  exact o mu Z H1 sr (Stp.refl _ _ _)
/-- as values -/
def mAndV (fa fb : EM) : EM := fun s h => (fa s h).bind fun x h1 => (truOp x h1).bind fun c h2 => if c = true then fb s h2 else .ok x h2
def mOrV (fa fb : EM) : EM := fun s h => (fa s h).bind fun x h1 => (truOp x h1).bind fun c h2 => if c = true then .ok x h2 else fb s h2
def mNotV (fa : EM) : EM := fun s h => (fa s h).bind fun x h1 => (truOp x h1).bind fun c h2 => .ok (.bl (!c)) h2
theorem tA.tru {K : PySem.W.Frag} {x : D} {u : V} {sg : L2.St} {H : Hp} {Q : VK} {k : Bool → Sl → Hh → Res D} (o : tA K W [x] [u] (fun s h => (truOp x h).bind fun c h2 => k c s h2) sg H Q) : ∃ c, TruA K u H c ∧ tA K W [x] [u] (k c) sg H Q := by
  obtain ⟨mu, Z, h, s, sr, sl, rp, o⟩ := o
  cases rp with
  | cons r rp =>
    cases e : truOp x h with
    | ok c h' =>
      obtain ⟨e1, t⟩ := sr.tru r e
      subst e1
      simp only [e, Res.bind_ok] at o
      exact ⟨c, t, mu, Z, h', s, sr, sl, .cons r rp, o⟩
    | ex q h' => exfalso; unfold truOp at e; repeat (first | (split at e) | cases e)
    | bad => simp only [e, Res.bind_bad] at o; exact o.elim
theorem pe_andA {ta tb : TE} (ha : PE X a ta) (hb : PE X (.BoolOp .And (b :: rest) pos) tb) : PE X (.BoolOp .And (a :: b :: rest) pos) (fun σ H Q => ta σ H fun x H1 => ∃ k, TruA X.K x H1 k ∧ if k = true then tb σ H1 Q else Q x H1) := by
  refine ⟨fun pins s σ H Q I h => ?_⟩
  refine BoolOp_and (thn (ha.run pins s σ H _ I h) fun v s1 ⟨x, H1, I1, r1, q1⟩ => ?_)
  obtain ⟨k, e, q1⟩ := q1
  refine thn (tru_A pins s1 σ H1 x v (fun c H2 => c = k ∧ H2 = H1) I1 r1 ⟨k, e, rfl, rfl⟩) fun c s2 hc => ?_
  obtain ⟨H2, I2, e1, e2⟩ := hc
  rw [e2] at I2
  rw [← e1] at q1
  cases c with
  | true => exact hb.run pins s2 σ H1 Q I2 q1
  | false => exact ⟨x, H1, I2, r1, q1⟩
theorem pe_orA {ta tb : TE} (ha : PE X a ta) (hb : PE X (.BoolOp .Or (b :: rest) pos) tb) : PE X (.BoolOp .Or (a :: b :: rest) pos) (fun σ H Q => ta σ H fun x H1 => ∃ k, TruA X.K x H1 k ∧ if k = true then Q x H1 else tb σ H1 Q) := by
  refine ⟨fun pins s σ H Q I h => ?_⟩
  refine BoolOp_or (thn (ha.run pins s σ H _ I h) fun v s1 ⟨x, H1, I1, r1, q1⟩ => ?_)
  obtain ⟨k, e, q1⟩ := q1
  refine thn (tru_A pins s1 σ H1 x v (fun c H2 => c = k ∧ H2 = H1) I1 r1 ⟨k, e, rfl, rfl⟩) fun c s2 hc => ?_
  obtain ⟨H2, I2, e1, e2⟩ := hc
  rw [e2] at I2
  rw [← e1] at q1
  cases c with
  | true => exact ⟨x, H1, I2, r1, q1⟩
  | false => exact hb.run pins s2 σ H1 Q I2 q1
theorem pe_notA {ta : TE} (ha : PE X a ta) : PE X (.UnaryOp .Not a pos) (fun σ H Q => ta σ H fun x H1 => ∃ k, TruA X.K x H1 k ∧ Q (.bl (!k)) H1) := by
  refine ⟨fun pins s σ H Q I h => ?_⟩
  refine UnaryOp_ (thn (ha.run pins s σ H _ I h) fun v s1 ⟨x, H1, I1, r1, q1⟩ => ?_)
  obtain ⟨k, e, q1⟩ := q1
  exact not_of (thn (tru_A pins s1 σ H1 x v (fun c H2 => Q (.bl (!c)) H2) I1 r1 ⟨k, e, q1⟩) fun c s2 ⟨H2, I2, q2⟩ => ⟨.bl (!c), H2, I2, rfl, q2⟩)
theorem tA.drop {K : PySem.W.Frag} {vs : List D} {us : List V} {f : Sl → Hh → Res D} {sg : L2.St} {H : Hp} {Q : VK} (o : tA K W vs us f sg H Q) : tE K W f sg H Q := by
  obtain ⟨mu, Z, h, s, sr, sl, rp, o⟩ := o
  exact ⟨mu, Z, h, s, sr, sl, .nil, o⟩
theorem se_one {op : PySem.BoolOp} (ha : SE W X a fa) : SE W X (.BoolOp op [a] pos) fa := pe_one ha
theorem se_and (ha : SE W X a fa) (hb : SE W X (.BoolOp .And (b :: rest) pos) fb) : SE W X (.BoolOp .And (a :: b :: rest) pos) (mAndV fa fb) := PE.imp (pe_andA ha hb) fun sg H Q o => by
  refine tA.mono (tA.seq (k := fun x s h => (truOp x h).bind fun c h2 => if c = true then fb s h2 else .ok x h2) o) fun u H1 ⟨x, q⟩ => ?_
  obtain ⟨c, t, q⟩ := q.tru (k := fun c s h2 => if c = true then fb s h2 else .ok x h2)
  refine ⟨c, t, ?_⟩
  cases c with
  | true => exact q.drop
  | false =>
    rw [if_neg Bool.false_ne_true]
    replace q := q.open1
    obtain ⟨mu, Z, h, s, sr, sl, rx, o⟩ := q
    exact Out.val sr rfl rx o
theorem se_or (ha : SE W X a fa) (hb : SE W X (.BoolOp .Or (b :: rest) pos) fb) : SE W X (.BoolOp .Or (a :: b :: rest) pos) (mOrV fa fb) := PE.imp (pe_orA ha hb) fun sg H Q o => by
  refine tA.mono (tA.seq (k := fun x s h => (truOp x h).bind fun c h2 => if c = true then .ok x h2 else fb s h2) o) fun u H1 ⟨x, q⟩ => ?_
  obtain ⟨c, t, q⟩ := q.tru (k := fun c s h2 => if c = true then .ok x h2 else fb s h2)
  refine ⟨c, t, ?_⟩
  cases c with
  | false => exact q.drop
  | true =>
    rw [if_pos rfl]
    replace q := q.open1
    obtain ⟨mu, Z, h, s, sr, sl, rx, o⟩ := q
    exact Out.val sr rfl rx o
theorem se_not (ha : SE W X a fa) : SE W X (.UnaryOp .Not a pos) (mNotV fa) := PE.imp (pe_notA ha) fun sg H Q o => by
  refine tA.mono (tA.seq (k := fun x s h => (truOp x h).bind fun c h2 => .ok (.bl (!c)) h2) o) fun u H1 ⟨x, q⟩ => ?_
  obtain ⟨c, t, q⟩ := q.tru (k := fun c s h2 => .ok (.bl (!c)) h2)
  refine ⟨c, t, ?_⟩
  replace q := q.open1
  obtain ⟨mu, Z, h, s, sr, sl, rx, o⟩ := q
  exact Out.val sr rfl (.bl _) o
/-- a if t else b -/
def mIf (ft : TM) (fa fb : EM) : EM := fun s h => (ft s h).bind fun c h1 => if c = true then fa s h1 else fb s h1
theorem se_if (hc : ST W X c ft) (ha : SE W X a fa) (hb : SE W X b fb) : SE W X (.IfExp c a b pos) (mIf ft fa fb) := PE.imp (pe_ifExp hc ha hb) fun sg H Q o => by
  refine tR.mono (tA.seqG (k := fun c s h => if c = true then fa s h else fb s h) o) fun c mu Z H1 q => ?_
  have q := q [] [] .nil
  cases c with
  | true => exact q
  | false => exact q
end
end TB
end

section
set_option Elab.async false
set_option linter.all false
set_option maxRecDepth 100000
set_option autoImplicit false
set_option maxHeartbeats 1000000
/-! TB6: subscripts, slices, argument lists, displays. -/
namespace TB
open PySem PySem.Spec PyProof.Rows L2
variable [LC] [LT]

/-! ### a[b] -/
def ixOp (o i : D) (h : Hh) : Res D := match sqOf h o with
  | some xs => match i with
    | .int j => match atI xs j with
      | some v => .ok v h
      | none => .bad
    | _ => .bad
  | none => match dcOf h o, keyOf i with
    | some ks, some k => match valD ks k with
      | some v => .ok v h
      | none => .bad
    | _, _ => match o, i with
      | .str z, .int j => match atI z.cps.toList j with
        | some c => .ok (.str ⟨#[c]⟩) h
        | none => .bad
      | _, _ => .bad
def rDG : R2 := fun x y H Q => ∃ a v, x = .ref a ∧ DGet H a y (some v) ∧ Q v H
theorem ix_dict {X : Cx} (hu : X.A.units + 1 < cLine) : IxR X rDG := by
  intro value slice pins s σ H x y v u Q I rx ry h hs
  obtain ⟨a, w, rfl, g, q⟩ := h
  cases rx
  have hT := dict_typeIs I g
  unfold subscriptTail
  refine wpAny_bind ?_
  rw [getitemInPython_of_ne hT.not_modules]
  refine wpAny_bind (wpAny_specialOf hT PySem.F.slot_dict_getitem.lookup ?_)
  have fin : wpAny (model X.prog X.w) X.A (subscripted slice false (.ref a) u) (fun r s₃ => wpAny (model X.prog X.w) X.A (letTemporaryGo value (.ref a) r >>= fun _ => pure r) (EP X pins σ Q) X.xe s₃) X.xe s := by
    rw [hs]
    exact wpAny_operating (wpAny_mono (d_getItem hu I g ry fun w' s3 I3 rw' => (show EP X pins σ Q w' s3 from ⟨w, H, I3, rw', q⟩)) (fun r s₃ h₃ => wpAny_bind (wpAny_letTemporaryGo (wpAny_pure h₃))) fun _ _ x => x)
  first
    | exact wpAny_pure (wpAny_bind fin)
    | exact wpAny_bind (wpAny_pure (wpAny_bind fin))
    | exact wpAny_bind fin
def rIxD (K : PySem.W.Frag) : R2 := fun x y H Q => rIx K x y H Q ∨ rDG x y H Q
theorem ixN_len {m n : Nat} (h : m = n) (i : Int) : ixN m i = ixN n i := by rw [h]
theorem atI_rep {K : PySem.W.Frag} {mu : List Addr} {Z : Hp} {xs : List D} {vs : List V} (r : Reps K mu Z xs vs) {j : Int} {d : D} (e : atI xs j = some d) : ∃ v, atI vs j = some v ∧ Rep K mu Z d v := by
  unfold atI at e ⊢
  rw [← r.length]
  cases q : ixN xs.length j with
  | none => rw [q] at e; cases e
  | some n =>
    rw [q] at e
    exact r.get e
theorem sign_ok {z : Str} (hz : SOk z) {c : Nat} (hc : c ∈ z.cps.toList) : SOk ⟨#[c]⟩ := by
  refine ⟨?_, by show 1 ≤ sizeLine; decide⟩
  have h := hz.ok
  unfold PyData.strOk at h ⊢
  rw [← Array.all_toList] at h ⊢
  have := List.all_eq_true.mp h c hc
  simp only [List.all_cons, List.all_nil, Bool.and_true]
  exact this
theorem atI_mem {α : Type} {xs : List α} {i : Int} {v : α} (h : atI xs i = some v) : v ∈ xs := by
  obtain ⟨j, _, e, _⟩ := atI_get h
  exact List.mem_of_getElem? e
section
variable {W : WXx} {X : Cx} {a b c e : Expr} {fa fb fc : EM} {pos : Pos}
theorem op2_ix {K : PySem.W.Frag} : Op2 K (rIxD K) ixOp := by
  intro W x y u v sg H Q o
  replace o := o.open2
  obtain ⟨mu, Z, h, s, sr, sl, rx, ry, o⟩ := o
  unfold ixOp at o
  split at o
  · rename_i xs e
    split at o
    · rename_i j
      split at o
      · rename_i w e2
        obtain ⟨p, vs, rfl, hq, rp⟩ := sr.sq rx e
        obtain ⟨t, e3, rt⟩ := atI_rep rp e2
        cases ry
        rcases hq with hq | hq
        · exact .inl (.inl ⟨p, vs, j, t, rfl, rfl, hq, e3, Out.val sr rfl rt o⟩)
        · exact .inl (.inr (.inl ⟨p, vs, j, t, rfl, rfl, hq, e3, Out.val sr rfl rt o⟩))
      · exact o.elim
    · exact o.elim
  · split at o
    · rename_i ks k e1 e2
      split at o
      · rename_i w e3
        obtain ⟨p, kvs, rfl, hd, ek, _, rp⟩ := sr.dc rx e1
        have ev := keyOf_rep ry e2
        rcases valD_rep ek rp k with ⟨q1, q2⟩ | ⟨d, t, q1, q2, q3⟩
        · rw [q1] at e3; cases e3
        · rw [q1] at e3; cases e3
          exact .inr ⟨p, t, rfl, .inl ⟨kvs, k, hd, ev, q2.symm⟩, Out.val sr rfl q3 o⟩
      · exact o.elim
    · split at o
      · split at o
        · rename_i z j _ _ c e3
          cases rx with
          | str hz =>
            cases ry
            exact .inl (.inr (.inr ⟨_, _, c, rfl, rfl, hz.len, e3, Out.val sr rfl (.str (sign_ok hz (atI_mem e3))) o⟩))
        · exact o.elim
      · exact o.elim
theorem se_ix (hu : X.A.units + 65 < cLine) (ha : SE W X a fa) (hb : SE W X b fb) (hs : PlainIx b := by intro _ _; rfl) : SE W X (.Subscript a b pos) (m2 ixOp fa fb) :=
  PE.imp (pe_ix (ix_seq.or (ix_dict (by omega))) ha hb hs) fun _ _ _ o => seq2 op2_ix o

/-! ### a[i:j] -/
def mPart (f : Option EM) : Sl → Hh → Res (Option Int) := fun s h => match f with
  | none => .ok none h
  | some g => (g s h).bind fun v h1 => match v with
    | .int i => .ok (some i) h1
    | _ => .bad
def SO (W : WXx) (X : Cx) (e : Option Expr) (f : Option EM) : Prop := PO X e fun sg H Q => tR X.K W (mPart f) sg H fun o _ _ H' => Q o H'
theorem so_none : SO W X none none := ⟨fun pins s σ H Q I q => (po_none.run pins s σ H Q I (by
  obtain ⟨mu, Z, h, s, sr, sl, o⟩ := q
  exact o mu Z H sr (Stp.refl _ _ _)))⟩
theorem so_some (ha : SE W X a fa) : SO W X (some a) (some fa) := ⟨fun pins s σ H Q I q => (po_some ha).run pins s σ H Q I (by
  refine tA.mono (tR.seqE (k := fun v _ h => match v with
    | .int i => .ok (some i) h
    | _ => .bad) q) fun u H1 ⟨v, q⟩ => ?_
  obtain ⟨mu, Z, h, s, sr, sl, rp, o⟩ := q
  cases rp with
  | cons r _ =>
    split at o
    · rename_i i
      cases r
      exact ⟨i, rfl, o mu Z H1 sr (Stp.refl _ _ _)⟩
    · exact o.elim)⟩
def cutD {α : Type} (xs : List α) (lo hi : Option Int) : List α := (xs.drop (HT.sIx xs.length 0 lo)).take (HT.sIx xs.length xs.length hi - HT.sIx xs.length 0 lo)
theorem cut_rep {K : PySem.W.Frag} {mu : List Addr} {Z : Hp} {xs : List D} {vs : List V} (r : Reps K mu Z xs vs) (lo hi : Option Int) : Reps K mu Z (cutD xs lo hi) (cutV vs lo hi) := by
  unfold cutD cutV
  rw [← r.length]
  exact (r.drop _).take _
theorem cut_len {α : Type} (xs : List α) (lo hi : Option Int) : (cutD xs lo hi).length ≤ xs.length := by
  unfold cutD
  rw [List.length_take, List.length_drop]
  omega
theorem cut_whole {α : Type} {xs : List α} {lo hi : Option Int} (h : HT.sIx xs.length 0 lo = 0 ∧ HT.sIx xs.length xs.length hi = xs.length) : cutD xs lo hi = xs := by
  unfold cutD
  rw [h.1, h.2]
  simp
theorem cutS_ok {z : Str} (hz : SOk z) (lo hi : Option Int) : SOk (cutS z lo hi) := by
  have e : (cutS z lo hi).cps.toList = cutD z.cps.toList lo hi := by
    unfold cutS cutD
    simp [Str.length]
  refine ⟨?_, ?_⟩
  · have h := hz.ok
    unfold PyData.strOk at h ⊢
    rw [← Array.all_toList] at h ⊢
    rw [e]
    rw [List.all_eq_true] at h ⊢
    exact fun x hx => h x (List.mem_of_mem_drop (List.mem_of_mem_take hx))
  · have h := hz.len
    have l := cut_len z.cps.toList lo hi
    rw [← e] at l
    simp only [Array.length_toList] at l
    exact Nat.le_trans l h
def slOp (hp : Bool) (x : D) (lo hi : Option Int) (h : Hh) : Res D := match x with
  | .tup xs => .ok (.tup (cutD xs lo hi)) h
  | .str z => .ok (.str (cutS z lo hi)) h
  | x => match lsOf h x with
    | some xs => mkL hp (cutD xs lo hi) h
    | none => .bad
def mSl (hp : Bool) (fa : EM) (fl fh : Option EM) : EM := fun s h => (fa s h).bind fun x h1 => (mPart fl s h1).bind fun l h2 => (mPart fh s h2).bind fun u h3 => slOp hp x l u h3
def rSlD (K : PySem.W.Frag) : V → Option Int → Option Int → Hp → VK → Prop := fun x lo hi H Q => rSlF K x lo hi H Q ∨ (rSlL K x lo hi H Q ∨ rSlS x lo hi H Q)
theorem sl_D : SlR X (rSlD X.K) := L2.SlR.or sl_tupF (L2.SlR.or sl_list sl_str)
theorem sl_open {K : PySem.W.Frag} {hp : Bool} {x : D} {u : V} {lo hi : Option Int} {sg : L2.St} {H : Hp} {Q : VK} (o : tA K W [x] [u] (fun _ h => slOp hp x lo hi h) sg H Q) : rSlD K u lo hi H Q := by
  replace o := o.open1
  obtain ⟨mu, Z, h, s, sr, sl, rx, o⟩ := o
  unfold slOp at o
  split at o
  · rename_i xs
    cases rx with
    | tup q rp ln =>
      refine .inl ⟨_, _, rfl, (sr.zin.tupZ q).sq, fun hw => ?_, fun hw => ?_⟩
      · rw [← rp.length] at hw
        rw [cut_whole hw] at o
        exact Out.val sr rfl (.tup q rp ln) o
      · exact sr.newT (cut_rep rp lo hi) (Nat.le_trans (cut_len _ _ _) ln) o
  · cases rx with
    | str hz => exact .inr (.inr ⟨_, rfl, hz.len, Out.val sr rfl (.str (cutS_ok hz lo hi)) o⟩)
  · split at o
    · rename_i xs e
      obtain ⟨a, vs, rfl, q, rp⟩ := sr.ls rx e
      exact .inr (.inl ⟨a, vs, rfl, SqL.of q, fun p hp => sr.newL (cut_rep rp lo hi) (Nat.le_trans (cut_len _ _ _) (sr.lsLen rx e)) hp o⟩)
    · exact o.elim
theorem se_slice (hp : Bool) {lo hi : Option Expr} {fl fh : Option EM} {p2 : Pos} (ha : SE W X a fa) (hl : SO W X lo fl) (hh : SO W X hi fh) : SE W X (.Subscript a (.Slice lo hi none p2) pos) (mSl hp fa fl fh) :=
  PE.imp (pe_slice sl_D ha hl hh) fun sg H Q o => by
    refine tA.mono (tA.seq (k := fun x s h => (mPart fl s h).bind fun l h2 => (mPart fh s h2).bind fun u h3 => slOp hp x l u h3) o) fun u H1 ⟨x, q⟩ => ?_
    refine tR.mono (tA.seqG (k := fun l s h => (mPart fh s h).bind fun u h3 => slOp hp x l u h3) q) fun l mu Z H2 q2 => ?_
    refine tR.mono (tA.seqG (k := fun r _ h => slOp hp x l r h) (q2 [] [] .nil)) fun r mu Z H3 q3 => ?_
    exact sl_open (q3 [] [] .nil)
/-- a[::-1] -/
def revOp (hp : Bool) (x : D) (h : Hh) : Res D := match lsOf h x with
  | some xs => mkL hp xs.reverse h
  | none => .bad
theorem se_revL (hp : Bool) {k : Nat} {p1 p2 p3 : Pos} (ha : SE W X a fa) : SE W X (.Subscript a (.Slice none none (some (.UnaryOp .USub (.Constant (.int 1) k p1) p2)) p3) pos) (m1 (revOp hp) fa) :=
  PE.imp (pe_revL ha) fun sg H Q o => by
    refine tA.mono (tA.seq (k := fun x _ h => revOp hp x h) o) fun u H1 ⟨x, q⟩ => ?_
    replace q := q.open1
    obtain ⟨mu, Z, h, s, sr, sl, rx, o⟩ := q
    unfold revOp at o
    split at o
    · rename_i xs e
      obtain ⟨a, vs, rfl, q, rp⟩ := sr.ls rx e
      exact ⟨a, vs, rfl, SqL.of q, fun p hp => sr.newL rp.reverse (by rw [List.length_reverse]; exact sr.lsLen rx e) hp o⟩
    · exact o.elim

/-! ### argument lists, displays -/
def mNil : AM := fun _ h => .ok [] h
def mCons (fa : EM) (fr : AM) : AM := fun s h => (fa s h).bind fun x h1 => (fr s h1).bind fun xs h2 => .ok (x :: xs) h2
def tAs (K : PySem.W.Frag) (W : WXx) (f : AM) : TA := fun sg H Q => tR K W f sg H fun xs mu' Z' H' => ∀ us, Reps K mu' Z' xs us → Q us H'
def SA (W : WXx) (X : Cx) (es : List Expr) (f : AM) : Prop := PA X es (tAs X.K W f)
theorem sa_nil : SA W X [] mNil := PA.imp pa_nil fun sg H Q o => by
  obtain ⟨mu, Z, h, s, sr, sl, o⟩ := o
  exact o mu Z H sr (Stp.refl _ _ _) _ .nil
theorem sa_cons {es : List Expr} {fr : AM} (ha : SE W X a fa) (hr : SA W X es fr) (hs : starEach (a :: es) X.env = (false, eval a X.env) :: starEach es X.env := by rfl) : SA W X (a :: es) (mCons fa fr) :=
  PA.imp (pa_cons ha hr hs) fun sg H Q o => by
    refine tA.mono (tR.seqE (k := fun x s h => (fr s h).bind fun xs h2 => .ok (x :: xs) h2) o) fun u H1 ⟨x, q⟩ => ?_
    obtain ⟨mu, Z, h, s, sr, sl, rp, o⟩ := q
    refine ⟨mu, Z, h, s, sr, sl, ?_⟩
    cases e : fr s h with
    | ok xs h2 =>
      simp only [e, Res.bind_ok] at o
      exact fun mu1 Z1 H2 sr1 p1 us ru => by
        cases rp with
        | cons r1 _ => exact o mu1 Z1 H2 sr1 p1 _ (.cons (p1.rep r1) ru)
    | ex x h1 =>
      simp only [e, Res.bind_ex] at o
      exact o
    | bad =>
      simp only [e, Res.bind_bad] at o
      exact o.elim
/-- arguments, then an operation on them -/
def mApp (f : List D → Hh → Res D) (fa : AM) : EM := fun s h => (fa s h).bind f
theorem seqAs {K : PySem.W.Frag} {f : List D → Hh → Res D} {fr : AM} {sg : L2.St} {H : Hp} {Q : VK} (o : tE K W (mApp f fr) sg H Q) : tAs K W fr sg H fun us H1 => ∃ xs, tA K W xs us (fun _ h => f xs h) sg H1 Q := by
  obtain ⟨mu, Z, h, s, sr, sl, _, o⟩ := o
  refine ⟨mu, Z, h, s, sr, sl, ?_⟩
  unfold mApp at o
  cases e : fr s h with
  | ok xs h2 =>
    simp only [e, Res.bind_ok] at o
    exact fun mu1 Z1 H2 sr1 p1 us ru => ⟨xs, mu1, Z1, h2, s, sr1, sl.mono p1, ru, Out.mono p1 o fun _ _ _ _ _ _ q => q⟩
  | ex x h1 =>
    simp only [e, Res.bind_ex] at o
    exact o
  | bad =>
    simp only [e, Res.bind_bad] at o
    exact o.elim
theorem tAs.mono {K : PySem.W.Frag} {fr : AM} {sg : L2.St} {H : Hp} {Q Q' : List V → Hp → Prop} (o : tAs K W fr sg H Q) (hq : ∀ us H, Q us H → Q' us H) : tAs K W fr sg H Q' := tR.mono o fun _ _ _ _ q us r => hq _ _ (q us r)
def tupOp (xs : List D) (h : Hh) : Res D := if xs.length ≤ 1000 then .ok (.tup xs) h else .bad
def lstOp (hp : Bool) (xs : List D) (h : Hh) : Res D := if xs.length ≤ 1000 then mkL hp xs h else .bad
theorem le_line {n : Nat} (h : n ≤ 1000) : n ≤ sizeLine := Nat.le_trans h (by decide)
theorem se_tup {es : List Expr} {x1 : Nat} {fr : AM} (h : SA W X es fr) : SE W X (.Tuple es x1 pos) (mApp tupOp fr) := PE.imp (pe_tupF h) fun sg H Q o => by
  refine tAs.mono (seqAs o) fun us H1 ⟨xs, q⟩ => ?_
  obtain ⟨mu, Z, h, s, sr, sl, rp, o⟩ := q
  simp only [tupOp] at o
  split at o
  · rename_i hl
    exact ⟨by rw [← rp.length]; exact le_line hl, sr.newT rp (le_line hl) o⟩
  · exact o.elim
theorem se_lst (hp : Bool) {es : List Expr} {fr : AM} (h : SA W X es fr) : SE W X (.List es pos) (mApp (lstOp hp) fr) := PE.imp (pe_lst h) fun sg H Q o => by
  refine tAs.mono (seqAs o) fun us H1 ⟨xs, q⟩ => ?_
  obtain ⟨mu, Z, h, s, sr, sl, rp, o⟩ := q
  simp only [lstOp] at o
  split at o
  · rename_i hl
    exact ⟨by rw [← rp.length]; exact le_line hl, fun p hp => sr.newL rp (le_line hl) hp o⟩
  · exact o.elim
end
end TB
end

section
set_option Elab.async false
set_option linter.all false
set_option maxRecDepth 100000
set_option autoImplicit false
set_option maxHeartbeats 1000000
/-! TB7: calls of built-ins. -/
namespace TB
open PySem PySem.Spec PyProof.Rows L2
variable [LC] [LT]

def OpA (K : PySem.W.Frag) (r : List V → Hp → VK → Prop) (f : List D → Hh → Res D) : Prop :=
  ∀ (W : WXx) (xs : List D) (us : List V) (sg : L2.St) (H : Hp) (Q : VK), tA K W xs us (fun _ h => f xs h) sg H Q → r us H Q
section
variable {W : WXx} {X : Cx} {a b c e : Expr} {es : List Expr} {fa fb fc : EM} {fr : AM} {p pos : Pos} {x : Str} {id T : String} {r : List V → Hp → VK → Prop} {f : List D → Hh → Res D}
theorem se_callB (hc : CallR X (.builtin id) r) (hA : OpA X.K r f) (hg : Gl X x) (hm : X.mg x = none) (hv : bootBuiltins x = some (.builtin id)) (ha : SA W X (e :: es) fr) (hn : x ≠ "__name__" := by decide) (hdb : (x == ("__debug__" : Str)) = false := by decide)
    (he : starEach (e :: es) X.env = (false, eval e X.env) :: starEach es X.env := by rfl) (hpl : (backTo pos (starEach es X.env)).any (·.1) = false := by rfl) : SE W X (.Call (.Name x p) (e :: es) [] pos) (mApp f fr) :=
  PE.imp (pe_callB hc hg hm hv ha hn hdb he hpl) fun sg H Q o => tAs.mono (seqAs o) fun us H1 ⟨xs, q⟩ => hA W xs us sg H1 Q q
theorem se_callTy (hc : CallR X (.type T) r) (hA : OpA X.K r f) (hg : Gl X x) (hm : X.mg x = none) (hv : bootBuiltins x = some (.type T)) (ha : SA W X (e :: es) fr) (hn : x ≠ "__name__" := by decide) (hdb : (x == ("__debug__" : Str)) = false := by decide)
    (he : starEach (e :: es) X.env = (false, eval e X.env) :: starEach es X.env := by rfl) (hpl : (backTo pos (starEach es X.env)).any (·.1) = false := by rfl) : SE W X (.Call (.Name x p) (e :: es) [] pos) (mApp f fr) :=
  PE.imp (pe_callTy hc hg hm hv ha hn hdb he hpl) fun sg H Q o => tAs.mono (seqAs o) fun us H1 ⟨xs, q⟩ => hA W xs us sg H1 Q q
end
theorem CallR.imp {X : Cx} {f : Value} {r r' : List V → Hp → VK → Prop} (h : CallR X f r) (hi : ∀ xs H Q, r' xs H Q → r xs H Q) : CallR X f r' := fun pins s σ H xs us Q I rx q => h pins s σ H xs us Q I rx (hi _ _ _ q)
theorem CallR.or {X : Cx} {f : Value} {r r' : List V → Hp → VK → Prop} (h : CallR X f r) (h' : CallR X f r') : CallR X f (fun xs H Q => r xs H Q ∨ r' xs H Q) := fun pins s σ H xs us Q I rx q => by
  rcases q with q | q
  · exact h pins s σ H xs us Q I rx q
  · exact h' pins s σ H xs us Q I rx q
section
variable {K : PySem.W.Frag}
theorem tA.one {W : WXx} {xs : List D} {us : List V} {f : List D → Hh → Res D} {sg : L2.St} {H : Hp} {Q : VK} (o : tA K W xs us (fun _ h => f xs h) sg H Q) :
    ∃ mu Z h, SR K mu Z H h ∧ Reps K mu Z xs us ∧ Out K mu Z H (f xs h) (fun c d H' => W c d sg H') fun v mu' Z' H' _ => ∀ u, Rep K mu' Z' v u → Q u H' := by
  obtain ⟨mu, Z, h, s, sr, sl, rp, o⟩ := o
  exact ⟨mu, Z, h, sr, rp, o⟩

/-! ### len -/
def lenN (h : Hh) (x : D) : Option Nat := match x with
  | .str y => some y.length
  | .scr ns => some ns.length
  | x => match sqOf h x with
    | some xs => some xs.length
    | none => (dcOf h x).map (·.length)
def lenOp (xs : List D) (h : Hh) : Res D := match xs with
  | [x] => match lenN h x with
    | some n => .ok (.int n) h
    | none => .bad
  | _ => .bad
def rLen (K : PySem.W.Frag) : List V → Hp → VK → Prop := fun xs H Q => (∃ x n, xs = [x] ∧ LenV K x H n ∧ Q (.int n) H) ∨ ∃ a kvs, xs = [.ref a] ∧ Rd H a (.dK kvs) ∧ Q (.int kvs.length) H
theorem call_lenA {X : Cx} : CallR X (.builtin "len") (rLen X.K) := CallR.or call_len fun pins s σ H xs us Q I rx q => by
  obtain ⟨a, kvs, rfl, hd, q⟩ := q
  obtain ⟨u, rfl, r1⟩ := vals1 rx
  cases r1
  exact d_len I hd fun t s' I' => ⟨.int kvs.length, H, I', ⟨t, rfl⟩, q⟩
theorem opA_len : OpA K (rLen K) lenOp := by
  intro W xs us sg H Q o
  replace o := o.one
  obtain ⟨mu, Z, h, sr, rp, o⟩ := o
  unfold lenOp at o
  split at o
  · rename_i x
    cases rp with
    | cons r rp =>
      cases rp
      split at o
      · rename_i n e
        have fin : ∀ v, v = D.int n → Q (.int n) H := fun v _ => Out.val sr rfl (.int _) o
        unfold lenN at e
        split at e
        · cases r with
          | str hs => cases e; exact .inl ⟨_, _, rfl, ⟨hs.len, rfl⟩, fin _ rfl⟩
        · cases r with
          | scr hq _ => cases e; exact .inl ⟨_, _, rfl, .inl ⟨_, sr.zin.sqL hq, by simp⟩, fin _ rfl⟩
        · split at e
          · rename_i ys q
            obtain ⟨a, vs, rfl, hq, rp⟩ := sr.sq r q
            cases e
            refine .inl ⟨_, ys.length, rfl, ?_, fin _ rfl⟩
            rcases hq with hq | hq
            · exact .inl ⟨vs, hq, rp.length⟩
            · exact .inr ⟨vs, hq, rp.length⟩
          · rename_i q
            cases e1 : dcOf h x with
            | none => rw [e1] at e; cases e
            | some ks =>
              rw [e1] at e
              cases e
              obtain ⟨a, kvs, rfl, hq, ek, _, rp⟩ := sr.dc r e1
              have hl : ks.length = kvs.length := by have := congrArg List.length ek; simpa using this
              refine .inr ⟨a, kvs, rfl, hq, ?_⟩
              rw [← hl]
              exact fin _ rfl
      · exact o.elim
  · exact o.elim

/-! ### int, tuple, list -/
def intOp (xs : List D) (h : Hh) : Res D := match xs with
  | [.int i] => .ok (.int i) h
  | [.bl b] => .ok (.int (if b then 1 else 0)) h
  | _ => .bad
theorem opA_int : OpA K (fun xs H Q => (∃ i, xs = [.int i] ∧ Q (.int i) H) ∨ ∃ k, xs = [.bl k] ∧ Q (.int (if k then 1 else 0)) H) intOp := by
  intro W xs us sg H Q o
  replace o := o.one
  obtain ⟨mu, Z, h, sr, rp, o⟩ := o
  unfold intOp at o
  split at o
  · cases rp with
    | cons r rp =>
      cases rp
      cases r
      exact .inl ⟨_, rfl, Out.val sr rfl (.int _) o⟩
  · cases rp with
    | cons r rp =>
      cases rp
      cases r
      exact .inr ⟨_, rfl, Out.val sr rfl (.int _) o⟩
  · exact o.elim
def tupleOp (xs : List D) (h : Hh) : Res D := match xs with
  | [.tup ys] => .ok (.tup ys) h
  | [x] => match lsOf h x with
    | some ys => .ok (.tup ys) h
    | none => .bad
  | _ => .bad
theorem opA_tuple : OpA K (rTupOf K) tupleOp := by
  intro W xs us sg H Q o
  replace o := o.one
  obtain ⟨mu, Z, h, sr, rp, o⟩ := o
  unfold tupleOp at o
  split at o
  · cases rp with
    | cons r rp =>
      cases rp
      cases r with
      | tup q r2 l2 => exact ⟨_, _, rfl, .inr ⟨(sr.zin.tupZ q).sq, Out.val sr rfl (.tup q r2 l2) o⟩⟩
  · cases rp with
    | cons r rp =>
      cases rp
      split at o
      · rename_i ys e
        obtain ⟨a, vs, rfl, q, r2⟩ := sr.ls r e
        exact ⟨_, _, rfl, .inl ⟨SqL.of q, sr.newT r2 (sr.lsLen r e) o⟩⟩
      · exact o.elim
  · exact o.elim
def listOp (hp : Bool) (xs : List D) (h : Hh) : Res D := match xs with
  | [.scr ns] => mkL hp (ns.map D.int) h
  | [x] => match sqOf h x with
    | some ys => mkL hp ys h
    | none => match dcOf h x with
      | some ks => mkL hp (ks.map fun kv => match kv.1 with
        | .inl i => .int i
        | .inr y => .str y) h
      | none => .bad
  | _ => .bad
theorem ints_rep {mu : List Addr} {Z : Hp} : ∀ ns : List Int, Reps K mu Z (ns.map D.int) (ns.map V.int)
  | [] => .nil
  | n :: ns => .cons (.int n) (ints_rep ns)
def keyD : Key → D
  | .inl i => .int i
  | .inr y => .str y
def rListA (K : PySem.W.Frag) : List V → Hp → VK → Prop := fun xs H Q => ∃ p ys, xs = [.ref p] ∧ (SqL K H p ys ∨ SqT K H p ys) ∧ ∀ l, H l = none → Q (.ref l) (upd H l (.lst ys))
def listOp1 (hp : Bool) (xs : List D) (h : Hh) : Res D := match xs with
  | [.scr ns] => mkL hp (ns.map D.int) h
  | [x] => match sqOf h x with
    | some ys => mkL hp ys h
    | none => .bad
  | _ => .bad
theorem opA_list {hp : Bool} : OpA K (rListA K) (listOp1 hp) := by
  intro W xs us sg H Q o
  replace o := o.one
  obtain ⟨mu, Z, h, sr, rp, o⟩ := o
  unfold listOp1 at o
  split at o
  · cases rp with
    | cons r rp =>
      cases rp
      cases r with
      | scr hq ln => exact ⟨_, _, rfl, .inl (sr.zin.sqL hq), fun l hl => sr.newL (ints_rep _) (by simpa using ln) hl o⟩
  · cases rp with
    | cons r rp =>
      cases rp
      split at o
      · rename_i ys e
        obtain ⟨a, vs, rfl, q, r2⟩ := sr.sq r e
        exact ⟨_, _, rfl, q, fun l hl => sr.newL r2 (sr.sqLen r e) hl o⟩
      · exact o.elim
  · exact o.elim

/-! ### sum, max, min, any, all -/
def intsOf : List D → Option (List Int)
  | [] => some []
  | .int i :: xs => (intsOf xs).map (i :: ·)
  | _ => none
def bolsOf : List D → Option (List Bool)
  | [] => some []
  | .bl i :: xs => (bolsOf xs).map (i :: ·)
  | _ => none
theorem intsOf_map : ∀ ns : List Int, intsOf (ns.map D.int) = some ns
  | [] => rfl
  | n :: ns => by simp [intsOf, intsOf_map ns]
theorem bolsOf_map : ∀ ns : List Bool, bolsOf (ns.map D.bl) = some ns
  | [] => rfl
  | n :: ns => by simp [bolsOf, bolsOf_map ns]
theorem intsOf_rep {mu : List Addr} {Z : Hp} : ∀ {xs : List D} {vs : List V} {ns : List Int}, Reps K mu Z xs vs → intsOf xs = some ns → vs = ns.map V.int
  | [], _, _, .nil, e => by simp [intsOf] at e; subst e; rfl
  | x :: xs, v :: vs, ns, .cons r rs, e => by
    cases r <;> simp only [intsOf] at e <;> try cases e
    cases q : intsOf xs with
    | none => rw [q] at e; cases e
    | some ms =>
      rw [q] at e
      simp at e
      subst e
      rw [intsOf_rep rs q]
      rfl
theorem bolsOf_rep {mu : List Addr} {Z : Hp} : ∀ {xs : List D} {vs : List V} {ns : List Bool}, Reps K mu Z xs vs → bolsOf xs = some ns → vs = ns.map V.bl
  | [], _, _, .nil, e => by simp [bolsOf] at e; subst e; rfl
  | x :: xs, v :: vs, ns, .cons r rs, e => by
    cases r <;> simp only [bolsOf] at e <;> try cases e
    cases q : bolsOf xs with
    | none => rw [q] at e; cases e
    | some ms =>
      rw [q] at e
      simp at e
      subst e
      rw [bolsOf_rep rs q]
      rfl
def lsInts (h : Hh) (xs : List D) : Option (List Int) := match xs with
  | [x] => (lsOf h x).bind intsOf
  | _ => none
def lsBols (h : Hh) (xs : List D) : Option (List Bool) := match xs with
  | [x] => (lsOf h x).bind bolsOf
  | _ => none
def sumOp (xs : List D) (h : Hh) : Res D := match lsInts h xs with
  | some ns => .ok (.int ns.sum) h
  | none => .bad
def maxI (n : Int) (ns : List Int) : Int := ns.foldl (fun a b => if a < b then b else a) n
def minI (n : Int) (ns : List Int) : Int := ns.foldl (fun a b => if b < a then b else a) n
def max1Op (xs : List D) (h : Hh) : Res D := match lsInts h xs with
  | some (n :: ns) => .ok (.int (maxI n ns)) h
  | _ => .bad
def min1Op (xs : List D) (h : Hh) : Res D := match lsInts h xs with
  | some (n :: ns) => .ok (.int (minI n ns)) h
  | _ => .bad
def allOp (xs : List D) (h : Hh) : Res D := match lsBols h xs with
  | some bs => .ok (.bl (bs.all id)) h
  | none => .bad
def anyOp (xs : List D) (h : Hh) : Res D := match lsBols h xs with
  | some bs => .ok (.bl (bs.any id)) h
  | none => .bad
theorem maxI_is : ∀ (ns : List Int) (n m : Int), m ∈ n :: ns → (∀ y, y ∈ n :: ns → y ≤ m) → maxI n ns = m
  | [], n, m, hm, _ => by simp at hm; subst hm; rfl
  | k :: ns, n, m, hm, hl => by
    show maxI (if n < k then k else n) ns = m
    have h1 := hl n (by simp)
    have h2 := hl k (by simp)
    refine maxI_is ns _ m ?_ fun y hy => ?_
    · split
      · rcases List.mem_cons.mp hm with e | hm
        · omega
        · exact hm
      · rcases List.mem_cons.mp hm with e | hm
        · rw [e]; simp
        · rcases List.mem_cons.mp hm with e | hm
          · have : m = n := by omega
            rw [this]; simp
          · exact List.mem_cons_of_mem _ hm
    · rcases List.mem_cons.mp hy with e | hy
      · split at e <;> omega
      · exact hl y (by simp [hy])
theorem minI_is : ∀ (ns : List Int) (n m : Int), m ∈ n :: ns → (∀ y, y ∈ n :: ns → m ≤ y) → minI n ns = m
  | [], n, m, hm, _ => by simp at hm; subst hm; rfl
  | k :: ns, n, m, hm, hl => by
    show minI (if k < n then k else n) ns = m
    have h1 := hl n (by simp)
    have h2 := hl k (by simp)
    refine minI_is ns _ m ?_ fun y hy => ?_
    · split
      · rcases List.mem_cons.mp hm with e | hm
        · omega
        · exact hm
      · rcases List.mem_cons.mp hm with e | hm
        · rw [e]; simp
        · rcases List.mem_cons.mp hm with e | hm
          · have : m = n := by omega
            rw [this]; simp
          · exact List.mem_cons_of_mem _ hm
    · rcases List.mem_cons.mp hy with e | hy
      · split at e <;> omega
      · exact hl y (by simp [hy])
theorem lsInts_rep {mu : List Addr} {Z H : Hp} {h : Hh} {xs : List D} {us : List V} {ns : List Int} (sr : SR K mu Z H h) (rp : Reps K mu Z xs us) (e : lsInts h xs = some ns) : ∃ a, us = [.ref a] ∧ SqL K H a (ns.map V.int) := by
  unfold lsInts at e
  split at e
  · rename_i x
    cases rp with
    | cons r rp =>
      cases rp
      cases q : lsOf h x with
      | none => rw [q] at e; cases e
      | some ys =>
        rw [q] at e
        obtain ⟨a, vs, rfl, q2, r2⟩ := sr.ls r q
        have := intsOf_rep r2 e
        subst this
        exact ⟨a, rfl, SqL.of q2⟩
  · cases e
theorem lsBols_rep {mu : List Addr} {Z H : Hp} {h : Hh} {xs : List D} {us : List V} {ns : List Bool} (sr : SR K mu Z H h) (rp : Reps K mu Z xs us) (e : lsBols h xs = some ns) : ∃ a, us = [.ref a] ∧ SqL K H a (ns.map V.bl) := by
  unfold lsBols at e
  split at e
  · rename_i x
    cases rp with
    | cons r rp =>
      cases rp
      cases q : lsOf h x with
      | none => rw [q] at e; cases e
      | some ys =>
        rw [q] at e
        obtain ⟨a, vs, rfl, q2, r2⟩ := sr.ls r q
        have := bolsOf_rep r2 e
        subst this
        exact ⟨a, rfl, SqL.of q2⟩
  · cases e
theorem opA_sum : OpA K (rSum K) sumOp := by
  intro W xs us sg H Q o
  replace o := o.one
  obtain ⟨mu, Z, h, sr, rp, o⟩ := o
  unfold sumOp at o
  split at o
  · rename_i ns e
    obtain ⟨a, rfl, q⟩ := lsInts_rep sr rp e
    exact ⟨a, ns, rfl, q, Out.val sr rfl (.int _) o⟩
  · exact o.elim
theorem opA_max1 : OpA K (rMax K) max1Op := by
  intro W xs us sg H Q o
  replace o := o.one
  obtain ⟨mu, Z, h, sr, rp, o⟩ := o
  unfold max1Op at o
  split at o
  · rename_i n ns e
    obtain ⟨a, rfl, q⟩ := lsInts_rep sr rp e
    refine ⟨a, n :: ns, rfl, q, by simp, fun m hm hl => ?_⟩
    rw [maxI_is ns n m hm hl] at o
    exact Out.val sr rfl (.int _) o
  · exact o.elim
theorem opA_min1 : OpA K (rMin K) min1Op := by
  intro W xs us sg H Q o
  replace o := o.one
  obtain ⟨mu, Z, h, sr, rp, o⟩ := o
  unfold min1Op at o
  split at o
  · rename_i n ns e
    obtain ⟨a, rfl, q⟩ := lsInts_rep sr rp e
    refine ⟨a, n :: ns, rfl, q, by simp, fun m hm hl => ?_⟩
    rw [minI_is ns n m hm hl] at o
    exact Out.val sr rfl (.int _) o
  · exact o.elim
theorem opA_all : OpA K (rAll K) allOp := by
  intro W xs us sg H Q o
  replace o := o.one
  obtain ⟨mu, Z, h, sr, rp, o⟩ := o
  unfold allOp at o
  split at o
  · rename_i ns e
    obtain ⟨a, rfl, q⟩ := lsBols_rep sr rp e
    exact ⟨a, ns, rfl, q, Out.val sr rfl (.bl _) o⟩
  · exact o.elim
theorem opA_any : OpA K (rAny K) anyOp := by
  intro W xs us sg H Q o
  replace o := o.one
  obtain ⟨mu, Z, h, sr, rp, o⟩ := o
  unfold anyOp at o
  split at o
  · rename_i ns e
    obtain ⟨a, rfl, q⟩ := lsBols_rep sr rp e
    exact ⟨a, ns, rfl, q, Out.val sr rfl (.bl _) o⟩
  · exact o.elim
/-- max(a, b), min(a, b) -/
def max2Op (xs : List D) (h : Hh) : Res D := match xs with
  | [.int i, .int j] => .ok (.int (if j > i then j else i)) h
  | _ => .bad
def min2Op (xs : List D) (h : Hh) : Res D := match xs with
  | [.int i, .int j] => .ok (.int (if j < i then j else i)) h
  | _ => .bad
theorem opA_max2 : OpA K (fun xs H Q => ∃ i j, xs = [.int i, .int j] ∧ Q (.int (if j > i then j else i)) H) max2Op := by
  intro W xs us sg H Q o
  replace o := o.one
  obtain ⟨mu, Z, h, sr, rp, o⟩ := o
  unfold max2Op at o
  split at o
  · cases rp with
    | cons r rp =>
      cases rp with
      | cons r2 rp =>
        cases rp
        cases r
        cases r2
        exact ⟨_, _, rfl, Out.val sr rfl (.int _) o⟩
  · exact o.elim
theorem opA_min2 : OpA K (fun xs H Q => ∃ i j, xs = [.int i, .int j] ∧ Q (.int (if j < i then j else i)) H) min2Op := by
  intro W xs us sg H Q o
  replace o := o.one
  obtain ⟨mu, Z, h, sr, rp, o⟩ := o
  unfold min2Op at o
  split at o
  · cases rp with
    | cons r rp =>
      cases rp with
      | cons r2 rp =>
        cases rp
        cases r
        cases r2
        exact ⟨_, _, rfl, Out.val sr rfl (.int _) o⟩
  · exact o.elim
end

/-! ### isinstance -/
inductive Ty7 where
  | non | bl | int | str | tup | lst | dic
  deriving DecidableEq
def Ty7.nm : Ty7 → String
  | .non => "NoneType" | .bl => "bool" | .int => "int" | .str => "str" | .tup => "tuple" | .lst => "list" | .dic => "dict"
def kin (h : Hh) : D → Option Ty7
  | .non => some .non
  | .bl _ => some .bl
  | .int _ => some .int
  | .str _ => some .str
  | .tup _ => some .tup
  | .lst _ => some .lst
  | .dic _ => some .dic
  | .ref n => match h[n]? with
    | some (.lst _) => some .lst
    | some (.dic _) => some .dic
    | _ => none
  | _ => none
def tyOf7 (n : String) : Option Ty7 := if n = "int" then some .int else if n = "bool" then some .bl else if n = "str" then some .str else if n = "tuple" then some .tup else if n = "list" then some .lst else if n = "dict" then some .dic else none
def isT (t c : Ty7) : Bool := decide (t = c) || (decide (t = .bl) && decide (c = .int))
theorem kit7 : ∀ t c : Ty7, c ≠ .non → kitB t.nm c.nm = some (isT t c)
  | .non, .bl, _ => by decide +kernel
  | .non, .int, _ => by decide +kernel
  | .non, .str, _ => by decide +kernel
  | .non, .tup, _ => by decide +kernel
  | .non, .lst, _ => by decide +kernel
  | .non, .dic, _ => by decide +kernel
  | .bl, .bl, _ => by decide +kernel
  | .bl, .int, _ => by decide +kernel
  | .bl, .str, _ => by decide +kernel
  | .bl, .tup, _ => by decide +kernel
  | .bl, .lst, _ => by decide +kernel
  | .bl, .dic, _ => by decide +kernel
  | .int, .bl, _ => by decide +kernel
  | .int, .int, _ => by decide +kernel
  | .int, .str, _ => by decide +kernel
  | .int, .tup, _ => by decide +kernel
  | .int, .lst, _ => by decide +kernel
  | .int, .dic, _ => by decide +kernel
  | .str, .bl, _ => by decide +kernel
  | .str, .int, _ => by decide +kernel
  | .str, .str, _ => by decide +kernel
  | .str, .tup, _ => by decide +kernel
  | .str, .lst, _ => by decide +kernel
  | .str, .dic, _ => by decide +kernel
  | .tup, .bl, _ => by decide +kernel
  | .tup, .int, _ => by decide +kernel
  | .tup, .str, _ => by decide +kernel
  | .tup, .tup, _ => by decide +kernel
  | .tup, .lst, _ => by decide +kernel
  | .tup, .dic, _ => by decide +kernel
  | .lst, .bl, _ => by decide +kernel
  | .lst, .int, _ => by decide +kernel
  | .lst, .str, _ => by decide +kernel
  | .lst, .tup, _ => by decide +kernel
  | .lst, .lst, _ => by decide +kernel
  | .lst, .dic, _ => by decide +kernel
  | .dic, .bl, _ => by decide +kernel
  | .dic, .int, _ => by decide +kernel
  | .dic, .str, _ => by decide +kernel
  | .dic, .tup, _ => by decide +kernel
  | .dic, .lst, _ => by decide +kernel
  | .dic, .dic, _ => by decide +kernel
  | _, .non, h => absurd rfl h
theorem ty7_ok {n : String} {c : Ty7} (h : tyOf7 n = some c) : n = c.nm ∧ c ≠ .non := by
  unfold tyOf7 at h
  repeat' (split at h)
  all_goals first | (cases h; done) | (cases h; rename_i e; exact ⟨e, by decide⟩)
theorem kin_tyx {K : PySem.W.Frag} {mu : List Addr} {Z H : Hp} {h : Hh} {d : D} {v : V} {t : Ty7} (sr : SR K mu Z H h) (r : Rep K mu Z d v) (e : kin h d = some t) : TyX K H v (.type t.nm) := by
  cases d with
  | non => cases r; cases e; exact .base .non
  | bl b => cases r; cases e; exact .base (.bl b)
  | int b => cases r; cases e; exact .base (.int b)
  | str b => cases r; cases e; exact .base (.str b)
  | tup xs =>
    cases e
    cases r with
    | tup q _ _ =>
      rcases sr.zin.tupZ q with ⟨o, q, _⟩ | ⟨o, its, n, h1, h2, _⟩
      · exact .fTuple q
      · exact .kTuple h1 h2
  | lst xs =>
    cases e
    cases r with
    | lst q _ _ => exact .base (.lst (sr.zin _ _ q))
  | dic xs =>
    cases e
    cases r with
    | dic q _ _ _ => exact .fDict (sr.zin _ _ q)
  | ref n =>
    simp only [kin] at e
    split at e
    · rename_i xs q
      cases e
      obtain ⟨a, rfl, _, _, vs, e2, _⟩ := sr.cellAt q r
      exact .base (.lst e2)
    · rename_i xs q
      cases e
      obtain ⟨a, rfl, _, vs, e2, _⟩ := sr.cellAt q r
      exact .base (.dK e2)
    · cases e
  | _ => simp [kin] at e
def tysOf : List D → Option (List Ty7)
  | [] => some []
  | .ty n :: xs => match tyOf7 n, tysOf xs with
    | some c, some cs => some (c :: cs)
    | _, _ => none
  | _ => none
def isiOp (xs : List D) (h : Hh) : Res D := match xs with
  | [x, .ty n] => match kin h x, tyOf7 n with
    | some t, some c => .ok (.bl (isT t c)) h
    | _, _ => .bad
  | [x, .tup cs] => match kin h x, tysOf cs with
    | some t, some ts => .ok (.bl (ts.any fun c => isT t c)) h
    | _, _ => .bad
  | _ => .bad
def rIsiF (K : PySem.W.Frag) : List V → Hp → VK → Prop := fun xs H Q => ∃ (x : V) (tp : Addr) (cs : List V) (t : Value) (us : List Value) (b : Bool), xs = [x, .ref tp] ∧ TupZ K H tp cs ∧ Paired ClsV cs us ∧ TyX K H x t ∧ PySem.W.kitAny K t us = some b ∧ Q (.bl b) H
theorem call_isiF {X : Cx} : CallR X (.builtin "isinstance") (rIsiF X.K) := by
  intro pins s σ H xs us Q I r h
  obtain ⟨x, tp, cs, t, ws, b, rfl, hT, k, ty, e, q⟩ := h
  obtain ⟨u1, u2, rfl, r1, r2⟩ := vals2 r
  cases (show u2 = Value.ref tp from r2)
  obtain ⟨P, Z, p, hx⟩ := kit_of I r1 ty
  obtain ⟨its, rv, ⟨o, h1, h2, n, h3⟩, _⟩ := I.tuple hT.sq
  have e3 := ClsV.all k rv
  subst e3
  obtain ⟨oc, od, dt, sl⟩ := o
  simp only at h2 h3
  subst h2 h3
  exact PySem.W.kia_tup Z I.kIn p h1 e hx fun tk => ⟨.bl b, H, I.tok tk, rfl, q⟩
theorem tys_rep {K : PySem.W.Frag} {mu : List Addr} {Z : Hp} {t : Ty7} : ∀ {xs : List D} {vs : List V} {ts : List Ty7}, Reps K mu Z xs vs → tysOf xs = some ts →
    ∃ us, Paired ClsV vs us ∧ PySem.W.kitAny K (.type t.nm) us = some (ts.any fun c => isT t c)
  | [], _, _, .nil, e => by simp [tysOf] at e; subst e; exact ⟨[], .nil, by simp [PySem.W.kitAny]⟩
  | x :: xs, v :: vs, ts, .cons r rs, e => by
    cases r <;> simp only [tysOf] at e <;> try cases e
    rename_i n
    split at e
    · rename_i c cs e1 e2
      cases e
      obtain ⟨us, p, k⟩ := tys_rep (t := t) rs e2
      obtain ⟨e3, hc⟩ := ty7_ok e1
      subst e3
      refine ⟨_, .cons (.ty _) p, ?_⟩
      have h1 := kit_ty (K := K) (kit7 t c hc)
      exact kitAny_cons h1 (fun z => by rw [k]; simp [z]) fun z => by simp [z]
    · cases e
theorem opA_isi {K : PySem.W.Frag} : OpA K (fun xs H Q => rIsi K xs H Q ∨ rIsiF K xs H Q) isiOp := by
  intro W xs us sg H Q o
  replace o := o.one
  obtain ⟨mu, Z, h, sr, rp, o⟩ := o
  unfold isiOp at o
  split at o
  · cases rp with
    | cons r rp =>
      cases rp with
      | cons r2 rp =>
        cases rp
        cases r2
        split at o
        · rename_i t c e1 e2
          obtain ⟨e3, hc⟩ := ty7_ok e2
          subst e3
          exact .inl ⟨_, _, _, _, _, rfl, .ty _, kin_tyx sr r e1, kit_ty (kit7 t c hc), Out.val sr rfl (.bl _) o⟩
        · exact o.elim
  · cases rp with
    | cons r rp =>
      cases rp with
      | cons r2 rp =>
        cases rp
        cases r2 with
        | tup q r3 _ =>
          split at o
          · rename_i t ts e1 e2
            obtain ⟨us, p, k⟩ := tys_rep (t := t) r3 e2
            exact .inr ⟨_, _, _, _, us, _, rfl, sr.zin.tupZ q, p, kin_tyx sr r e1, k, Out.val sr rfl (.bl _) o⟩
          · exact o.elim
  · exact o.elim
theorem call_isiA {X : Cx} : CallR X (.builtin "isinstance") (fun xs H Q => rIsi X.K xs H Q ∨ rIsiF X.K xs H Q) := CallR.or call_isi call_isiF
end TB
end

section
set_option Elab.async false
set_option linter.all false
set_option maxRecDepth 100000
set_option autoImplicit false
set_option maxHeartbeats 1000000
/-! TB8: methods of built-in types. -/
namespace TB
open PySem PySem.Spec PyProof.Rows L2
variable [LC] [LT]

/-! ### the receiver's type -/
def tyG (K : PySem.W.Frag) (T : String) (x : V) (H : Hp) : Prop := tyV K T x H ∨ (T = "tuple" ∧ ∃ a xs, x = .ref a ∧ TupZ K H a xs) ∨ (T = "dict" ∧ ∃ a kvs, x = .ref a ∧ Rd H a (.dK kvs)) ∨ (T = "dict" ∧ ∃ a w ys, x = .ref a ∧ Rd H a (NDO w a ys))
theorem tyG_is {X : Cx} {pins : List (Addr × Obj)} {σ : L2.St} {H : Hp} {s : Shared} {T : String} {x : V} {v : Value} (I : Inv X pins σ H s) (r : RelV x v) (ty : tyG X.K T x H) :
    s.TypeIs v T ∧ ∀ a, v = .ref a → ∃ ob, s.heap.get? a = some ob ∧ ob.dict = none := by
  rcases ty with ty | ⟨rfl, a, xs, rfl, t⟩ | ⟨rfl, a, kvs, rfl, hd⟩ | ⟨rfl, a, w, ys, rfl, hd⟩
  · exact tyV_is I r ty
  · cases r
    obtain ⟨o, h1, h2, h3⟩ := t.nodict I
    exact ⟨⟨o, h1, h2⟩, fun b e => by cases e; exact ⟨o, h1, h3⟩⟩
  · cases r
    obtain ⟨_, _, vs, _, o, es, ep, h1, h2, _⟩ := dk_rd I.hok hd
    exact ⟨⟨o, h1, h2.1⟩, fun b e => by cases e; exact ⟨o, h1, h2.2.1⟩⟩
  · cases r
    obtain ⟨⟨_, _, _, _, _, o, es, ep, h1, h2, h3, _⟩, _⟩ := hd.ok I.hok
    exact ⟨⟨o, h1, h2.1⟩, fun b e => by cases e; exact ⟨o, h1, h2.2.1⟩⟩
/-- a dict with tuples as keys -/
def isDit (h : Hh) : D → Bool
  | .dit _ => true
  | .ref n => match h[n]? with
    | some (.dit _) => true
    | _ => false
  | _ => false
def ditOf (h : Hh) (x : D) : Option (List (D × D)) := match x with
  | .dit kts => some kts
  | .ref n => match h[n]? with
    | some (.dit kts) => some kts
    | _ => none
  | _ => none
theorem SR.dt {K : PySem.W.Frag} {mu : List Addr} {Z H : Hp} {h : Hh} {d : D} {v : V} (sr : SR K mu Z H h) (r : Rep K mu Z d v) {kts : List (D × D)} (e : ditOf h d = some kts) :
    ∃ a ys, v = .ref a ∧ Rd H a (NDO LC.W a ys) ∧ kts.map (fun p => nkT p.1) = ys.map (fun y => some y.1) ∧ kts.length ≤ sizeLine ∧ Reps K mu Z (kts.map (·.1)) (ys.map fun y => .ref y.2.1) ∧ Reps K mu Z (kts.map (·.2)) (ys.map (·.2.2)) := by
  unfold ditOf at e
  split at e
  · cases e
    cases r with
    | dit q e1 l r1 r2 => exact ⟨_, _, rfl, .inr ⟨_, sr.zin _ _ q⟩, e1, l, r1, r2⟩
  · split at e
    · rename_i q
      cases e
      obtain ⟨a, rfl, _, ys, e2, r⟩ := sr.cellAt q r
      exact ⟨a, ys, rfl, .inl e2, r⟩
    · cases e
  · cases e
section
variable {X : Cx} {o e : Expr} {es : List Expr} {to : TE} {t : TA} {name : Str} {apos cpos : Pos} {T id : String} {r : V → List V → Hp → VK → Prop}
theorem pe_bg0 (pa : PlainAttrs T) (slot : Slot T name id) (hty : typeOf (.builtin id) = pure (.type "method_descriptor")) (hm : MtR X id r) (ho : PE X o to)
    (hbase : attributeBase o name X.env (eval o X.env) = eval o X.env := by rfl) (hline : (apos.endLine == cpos.line) = true := by rfl) : PE X (.Call (.Attribute o name apos) [] [] cpos) (fun σ H Q => to σ H fun x H1 => tyG X.K T x H1 ∧ r x [] H1 Q) := by
  refine ⟨fun pins s σ H Q I h => ?_⟩
  refine wpAny_Call_method0_late hbase hline (thn (ho.run pins s σ H _ I h) fun v s1 ⟨x, H1, I1, r1, ty, q1⟩ => ?_)
  obtain ⟨h1, h2⟩ := tyG_is I1 r1 ty
  exact ⟨T, id, pa, slot, hty, h1, h2, Calls.callWith_builtin rfl (PySem.evalArgs_none (hm pins s1 σ H1 x [] v [] Q I1 r1 .nil q1))⟩
theorem pe_bg (pa : PlainAttrs T) (slot : Slot T name id) (hty : typeOf (.builtin id) = pure (.type "method_descriptor")) (hm : MtR X id r) (ho : PE X o to) (ha : PA X (e :: es) t)
    (hbase : attributeBase o name X.env (eval o X.env) = eval o X.env := by rfl)
    (hfew : ((backTo cpos (starEach (e :: es) X.env)).all (fun x => !x.1) && (backToKw cpos (keywordEach [] X.env)).all (fun x => x.1.isSome)
      && decide ((e :: es).length + ([] : List Keyword).length + (if ([] : List Keyword).isEmpty then 0 else 1) < 30)) = true := by rfl)
    (hline : (apos.endLine == cpos.line) = true := by rfl) (hs : starEach (e :: es) X.env = (false, eval e X.env) :: starEach es X.env := by rfl) (hplain : (backTo cpos (starEach es X.env)).any (·.1) = false := by rfl) :
    PE X (.Call (.Attribute o name apos) (e :: es) [] cpos) (fun σ H Q => to σ H fun x H1 => tyG X.K T x H1 ∧ t σ H1 fun xs H2 => r x xs H2 Q) := by
  refine ⟨fun pins s σ H Q I h => ?_⟩
  refine wpAny_Call_method_late hbase hfew hline rfl (thn (ho.run pins s σ H _ I h) fun v s1 ⟨x, H1, I1, r1, ty, q1⟩ => ?_)
  obtain ⟨h1, h2⟩ := tyG_is I1 r1 ty
  refine ⟨T, id, pa, slot, hty, h1, h2, ?_⟩
  have hA := ha.run cpos pins s1 σ H1 _ I1 q1
  rw [hs] at hA ⊢
  refine Calls.callWith_builtin (by show (false || (backTo cpos (starEach es X.env)).any (·.1)) = false; rw [hplain] <;> rfl) (Calls.evalArgs_plain ?_)
  exact thn hA fun us s2 ⟨vs, H2, I2, r2, q2⟩ => hm pins s2 σ H2 x vs v us Q I2 r1 r2 q2
end
/-- is the receiver of type T -/
def isTy (T : Ty7) (h : Hh) (x : D) : Bool := decide (kin h x = some T) || (decide (T = .dic) && isDit h x)
theorem tyG_of {K : PySem.W.Frag} {mu : List Addr} {Z H : Hp} {h : Hh} {d : D} {v : V} {T : Ty7} (sr : SR K mu Z H h) (r : Rep K mu Z d v) (e : isTy T h d = true) (hT : T = .lst ∨ T = .dic ∨ T = .tup ∨ T = .str) : tyG K T.nm v H := by
  unfold isTy at e
  rcases Bool.or_eq_true_iff.mp e with e | e
  case inr =>
    obtain ⟨e1, e2⟩ := Bool.and_eq_true_iff.mp e
    have e1 := of_decide_eq_true e1
    subst e1
    unfold isDit at e2
    split at e2
    · cases r with
      | dit q _ _ _ _ => exact .inr (.inr (.inr ⟨rfl, _, _, _, rfl, .inr ⟨_, sr.zin _ _ q⟩⟩))
    · split at e2
      · rename_i q
        obtain ⟨a, rfl, _, ys, e2, _⟩ := sr.cellAt q r
        exact .inr (.inr (.inr ⟨rfl, _, _, _, rfl, .inl e2⟩))
      · cases e2
    · cases e2
  have e := of_decide_eq_true e
  cases d with
  | non => cases e; simp at hT
  | bl b => cases e; simp at hT
  | int b => cases e; simp at hT
  | str b => cases e; cases r; exact .inl rfl
  | tup xs =>
    cases e
    cases r with
    | tup q _ _ => exact .inr (.inl ⟨rfl, _, _, rfl, sr.zin.tupZ q⟩)
  | lst xs =>
    cases e
    cases r with
    | lst q _ _ => exact .inl (.inl ⟨rfl, _, SqL.of (sr.zin _ _ q)⟩)
  | dic xs =>
    cases e
    cases r with
    | dic q _ _ _ => exact .inr (.inr (.inl ⟨rfl, _, _, rfl, .inr ⟨_, sr.zin _ _ q⟩⟩))
  | dit xs => cases e
  | ref n =>
    simp only [kin] at e
    split at e
    · rename_i xs q
      cases e
      obtain ⟨a, rfl, _, _, vs, e2, _⟩ := sr.cellAt q r
      exact .inl (.inl ⟨rfl, vs, SqL.of e2⟩)
    · rename_i xs q
      cases e
      obtain ⟨a, rfl, _, vs, e2, _⟩ := sr.cellAt q r
      exact .inl (.inr (.inr (.inl ⟨rfl, .inl ⟨vs, e2⟩⟩)))
    · cases e
  | fn _ => cases e
  | ty _ => cases e
  | exn _ _ => cases e
  | ins _ _ => cases e
  | scr _ => cases e
/-- a method's call -/
def mMet (T : Ty7) (f : D → List D → Hh → Res D) (fo : EM) (fr : AM) : EM := fun s h => (fo s h).bind fun x h1 => if isTy T h1 x = true then (fr s h1).bind fun xs h2 => f x xs h2 else .bad
def OpM (K : PySem.W.Frag) (r : V → List V → Hp → VK → Prop) (f : D → List D → Hh → Res D) : Prop :=
  ∀ (W : WXx) (x : D) (u : V) (xs : List D) (us : List V) (sg : L2.St) (H : Hp) (Q : VK), tA K W (x :: xs) (u :: us) (fun _ h => f x xs h) sg H Q → r u us H Q
section
variable {W : WXx} {X : Cx} {o e : Expr} {es : List Expr} {fo : EM} {fr : AM} {name : Str} {apos cpos : Pos} {T : Ty7} {id : String} {r : V → List V → Hp → VK → Prop} {f : D → List D → Hh → Res D}
theorem Reps.rot {K : PySem.W.Frag} {mu : List Addr} {Z : Hp} {x : D} {u : V} : ∀ {xs : List D} {us : List V}, Reps K mu Z (xs ++ [x]) (us ++ [u]) → xs.length = us.length → Reps K mu Z (x :: xs) (u :: us)
  | [], [], h, _ => h
  | [], _ :: _, _, e => by simp at e
  | _ :: _, [], _, e => by simp at e
  | y :: ys, v :: vs, h, e => by
    cases h with
    | cons r rs =>
      have q := Reps.rot rs (by simpa using e)
      cases q with
      | cons r1 rs1 => exact .cons r1 (.cons r rs1)
theorem seqM {K : PySem.W.Frag} (hT : T = .lst ∨ T = .dic ∨ T = .tup ∨ T = .str) (hA : OpM K r f) {sg : L2.St} {H : Hp} {Q : VK} (q : tE K W (mMet T f fo fr) sg H Q) :
    tE K W fo sg H fun x H1 => tyG K T.nm x H1 ∧ tAs K W fr sg H1 fun xs H2 => r x xs H2 Q := by
  refine tA.mono (tA.seq (k := fun x s h1 => if isTy T h1 x = true then (fr s h1).bind fun xs h2 => f x xs h2 else .bad) q) fun u H1 ⟨x, q⟩ => ?_
  obtain ⟨mu, Z, h, s, sr, sl, rp, o⟩ := q
  cases rp with
  | cons r1 _ =>
    by_cases ht : isTy T h x = true
    · simp only [ht, if_true] at o
      refine ⟨tyG_of sr r1 ht hT, mu, Z, h, s, sr, sl, ?_⟩
      cases e : fr s h with
      | ok xs h2 =>
        simp only [e, Res.bind_ok] at o
        exact fun mu1 Z1 H2 sr1 p1 us ru => hA W x u xs us sg H2 Q ⟨mu1, Z1, h2, s, sr1, sl.mono p1, .cons (p1.rep r1) ru, Out.mono p1 o fun _ _ _ _ _ _ q => q⟩
      | ex x h1 =>
        simp only [e, Res.bind_ex] at o
        exact o
      | bad =>
        simp only [e, Res.bind_bad] at o
        exact o.elim
    · simp only [ht] at o
      exact o.elim
theorem se_met (hT : T = .lst ∨ T = .dic ∨ T = .tup ∨ T = .str) (pa : PlainAttrs T.nm) (slot : Slot T.nm name id) (hty : typeOf (.builtin id) = pure (.type "method_descriptor")) (hm : MtR X id r) (hA : OpM X.K r f) (ho : SE W X o fo) (ha : SA W X (e :: es) fr)
    (hbase : attributeBase o name X.env (eval o X.env) = eval o X.env := by rfl)
    (hfew : ((backTo cpos (starEach (e :: es) X.env)).all (fun x => !x.1) && (backToKw cpos (keywordEach [] X.env)).all (fun x => x.1.isSome)
      && decide ((e :: es).length + ([] : List Keyword).length + (if ([] : List Keyword).isEmpty then 0 else 1) < 30)) = true := by rfl)
    (hline : (apos.endLine == cpos.line) = true := by rfl) (hs : starEach (e :: es) X.env = (false, eval e X.env) :: starEach es X.env := by rfl) (hplain : (backTo cpos (starEach es X.env)).any (·.1) = false := by rfl) :
    SE W X (.Call (.Attribute o name apos) (e :: es) [] cpos) (mMet T f fo fr) := PE.imp (pe_bg pa slot hty hm ho ha hbase hfew hline hs hplain) fun sg H Q q => seqM hT hA q
theorem se_met0 (hT : T = .lst ∨ T = .dic ∨ T = .tup ∨ T = .str) (pa : PlainAttrs T.nm) (slot : Slot T.nm name id) (hty : typeOf (.builtin id) = pure (.type "method_descriptor")) (hm : MtR X id r) (hA : OpM X.K r f) (ho : SE W X o fo)
    (hbase : attributeBase o name X.env (eval o X.env) = eval o X.env := by rfl) (hline : (apos.endLine == cpos.line) = true := by rfl) :
    SE W X (.Call (.Attribute o name apos) [] [] cpos) (mMet T f fo mNil) := PE.imp (pe_bg0 pa slot hty hm ho hbase hline) fun sg H Q q => by
  refine tA.mono (seqM hT hA q) fun u H1 ⟨q1, q2⟩ => ⟨q1, ?_⟩
  obtain ⟨mu, Z, h, s, sr, sl, o⟩ := q2
  exact o mu Z H1 sr (Stp.refl _ _ _) _ .nil
end
section
variable {K : PySem.W.Frag}
theorem tA.met {W : WXx} {x : D} {u : V} {xs : List D} {us : List V} {f : D → List D → Hh → Res D} {sg : L2.St} {H : Hp} {Q : VK} (o : tA K W (x :: xs) (u :: us) (fun _ h => f x xs h) sg H Q) :
    ∃ mu Z h, SR K mu Z H h ∧ Rep K mu Z x u ∧ Reps K mu Z xs us ∧ Out K mu Z H (f x xs h) (fun c d H' => W c d sg H') fun v mu' Z' H' _ => ∀ u, Rep K mu' Z' v u → Q u H' := by
  obtain ⟨mu, Z, h, s, sr, sl, rp, o⟩ := o
  cases rp with
  | cons r rp => exact ⟨mu, Z, h, sr, r, rp, o⟩
/-- a cell is changed, a value comes back -/
theorem Out.wr {mu : List Addr} {Z H : Hp} {h : Hh} {n : Nat} {a : Addr} {ob : Ob} {ho : HO} {v : D} {u : V} {W : Value → Option Addr → Hp → Prop} {Q : VK} {r : Res D} (sr : SR K mu Z H h) (hm : mu[n]? = some a) (rb : ObRep K mu Z (upd H a ho) a ob)
    (e : r = .ok v (h.set n ob)) (rp : Rep K mu Z v u) (o : Out K mu Z H r W fun v mu' Z' H' _ => ∀ u, Rep K mu' Z' v u → Q u H') : Q u (upd H a ho) := by
  rw [e] at o
  obtain ⟨s1, p1⟩ := sr.setM hm ho ob rb
  exact o mu Z _ s1 p1 u (p1.rep rp)
theorem Out.wrL {mu : List Addr} {Z H : Hp} {h : Hh} {n : Nat} {a : Addr} {xs : List D} {vs : List V} {v : D} {u : V} {W : Value → Option Addr → Hp → Prop} {Q : VK} {r : Res D} (sr : SR K mu Z H h) (hm : mu[n]? = some a) (hl : xs.length ≤ sizeLine) (rb : Reps K mu Z xs vs)
    (e : r = .ok v (h.set n (.lst xs))) (rp : Rep K mu Z v u) (o : Out K mu Z H r W fun v mu' Z' H' _ => ∀ u, Rep K mu' Z' v u → Q u H') : Q u (upd H a (.lst vs)) :=
  Out.wr (ob := .lst xs) sr hm ⟨hl, vs, upd_same, rb⟩ e rp o
theorem Out.wrD {mu : List Addr} {Z H : Hp} {h : Hh} {n : Nat} {a : Addr} {ks : List (Key × D)} {kvs : List (Key × V)} {v : D} {u : V} {W : Value → Option Addr → Hp → Prop} {Q : VK} {r : Res D} (sr : SR K mu Z H h) (hm : mu[n]? = some a) (ek : ks.map (·.1) = kvs.map (·.1)) (ok : (∀ k, k ∈ ks.map (·.1) → KOk k) ∧ ks.length ≤ sizeLine) (rb : Reps K mu Z (ks.map (·.2)) (kvs.map (·.2)))
    (e : r = .ok v (h.set n (.dic ks))) (rp : Rep K mu Z v u) (o : Out K mu Z H r W fun v mu' Z' H' _ => ∀ u, Rep K mu' Z' v u → Q u H') : Q u (upd H a (.dK kvs)) :=
  Out.wr (ob := .dic ks) sr hm ⟨kvs, upd_same, ek, ok, rb⟩ e rp o
/-- a list's cell -/
def cellL (h : Hh) : D → Option (Nat × List D)
  | .ref n => match h[n]? with
    | some (.lst xs) => some (n, xs)
    | _ => none
  | _ => none
def cellD (h : Hh) : D → Option (Nat × List (Key × D))
  | .ref n => match h[n]? with
    | some (.dic xs) => some (n, xs)
    | _ => none
  | _ => none
theorem SR.cL {mu : List Addr} {Z H : Hp} {h : Hh} {x : D} {u : V} {n : Nat} {xs : List D} (sr : SR K mu Z H h) (r : Rep K mu Z x u) (e : cellL h x = some (n, xs)) : ∃ a vs, u = .ref a ∧ mu[n]? = some a ∧ H a = some (.lst vs) ∧ Reps K mu Z xs vs := by
  cases x with
  | ref m =>
    simp only [cellL] at e
    split at e
    · rename_i ys q
      cases e
      obtain ⟨a, rfl, hm, _, vs, e2, rp⟩ := sr.cellAt q r
      exact ⟨a, vs, rfl, hm, e2, rp⟩
    · cases e
  | _ => simp [cellL] at e
theorem SR.cLlen {mu : List Addr} {Z H : Hp} {h : Hh} {x : D} {u : V} {n : Nat} {xs : List D} (sr : SR K mu Z H h) (r : Rep K mu Z x u) (e : cellL h x = some (n, xs)) : xs.length ≤ sizeLine := by
  cases x with
  | ref m =>
    simp only [cellL] at e
    split at e
    · rename_i ys q
      cases e
      obtain ⟨a, rfl, hm, l, vs, e2, rp⟩ := sr.cellAt q r
      exact l
    · cases e
  | _ => simp [cellL] at e
theorem SR.cD {mu : List Addr} {Z H : Hp} {h : Hh} {x : D} {u : V} {n : Nat} {xs : List (Key × D)} (sr : SR K mu Z H h) (r : Rep K mu Z x u) (e : cellD h x = some (n, xs)) : ∃ a kvs, u = .ref a ∧ mu[n]? = some a ∧ H a = some (.dK kvs) ∧ xs.map (·.1) = kvs.map (·.1) ∧ ((∀ k, k ∈ xs.map (·.1) → KOk k) ∧ xs.length ≤ sizeLine) ∧ Reps K mu Z (xs.map (·.2)) (kvs.map (·.2)) := by
  cases x with
  | ref m =>
    simp only [cellD] at e
    split at e
    · rename_i ys q
      cases e
      obtain ⟨a, rfl, hm, vs, e2, e3, k, rp⟩ := sr.cellAt q r
      exact ⟨a, vs, rfl, hm, e2, e3, k, rp⟩
    · cases e
  | _ => simp [cellD] at e
def appendOp (x : D) (xs : List D) (h : Hh) : Res D := match cellL h x, xs with
  | some (n, ys), [y] => if ys.length < sizeLine then .ok .non (h.set n (.lst (ys ++ [y]))) else .bad
  | _, _ => .bad
theorem opM_append : OpM K rAppend appendOp := by
  intro W x u xs us sg H Q o
  replace o := o.met
  obtain ⟨mu, Z, h, sr, rx, rp, o⟩ := o
  unfold appendOp at o
  split at o
  · rename_i n ys y e
    split at o
    · rename_i hl
      obtain ⟨a, vs, rfl, hm, e2, r2⟩ := sr.cL rx e
      cases rp with
      | cons r rp =>
        cases rp
        exact ⟨a, vs, _, rfl, rfl, e2, by rw [← r2.length]; exact hl, Out.wrL sr hm (by simp; omega) (r2.append (.cons r .nil)) rfl .non o⟩
    · exact o.elim
  · exact o.elim
def extendOp (x : D) (xs : List D) (h : Hh) : Res D := match cellL h x, xs with
  | some (n, ys), [z] => match lsOf h z with
    | some zs => if ys.length + zs.length ≤ sizeLine then .ok .non (h.set n (.lst (ys ++ zs))) else .bad
    | none => .bad
  | _, _ => .bad
theorem opM_extend : OpM K rExtend extendOp := by
  intro W x u xs us sg H Q o
  replace o := o.met
  obtain ⟨mu, Z, h, sr, rx, rp, o⟩ := o
  unfold extendOp at o
  split at o
  · rename_i n ys y e
    split at o
    · rename_i zs ez
      split at o
      · rename_i hl
        obtain ⟨a, vs, rfl, hm, e2, r2⟩ := sr.cL rx e
        cases rp with
        | cons r rp =>
          cases rp
          obtain ⟨b, ws, rfl, e3, r3⟩ := sr.ls r ez
          exact ⟨a, b, vs, ws, rfl, rfl, e2, e3, by rw [← r2.length, ← r3.length]; exact hl, Out.wrL sr hm (by simpa using hl) (r2.append r3) rfl .non o⟩
      · exact o.elim
    · exact o.elim
  · exact o.elim
def popOp (x : D) (xs : List D) (h : Hh) : Res D := match cellL h x, xs with
  | some (n, ys), [] => match ys[ys.length - 1]? with
    | some y => .ok y (h.set n (.lst ys.dropLast))
    | none => .bad
  | _, _ => .bad
theorem Reps.dropLast {mu : List Addr} {Z : Hp} {xs : List D} {vs : List V} (r : Reps K mu Z xs vs) : Reps K mu Z xs.dropLast vs.dropLast := by
  rw [List.dropLast_eq_take, List.dropLast_eq_take, r.length]
  exact r.take _
theorem opM_pop : OpM K rPop popOp := by
  intro W x u xs us sg H Q o
  replace o := o.met
  obtain ⟨mu, Z, h, sr, rx, rp, o⟩ := o
  unfold popOp at o
  split at o
  · rename_i n ys e
    split at o
    · rename_i y ey
      obtain ⟨a, vs, rfl, hm, e2, r2⟩ := sr.cL rx e
      cases rp
      obtain ⟨w, e3, r3⟩ := r2.get ey
      rw [r2.length] at e3
      exact ⟨a, vs, w, rfl, rfl, e2, e3, Out.wrL sr hm (by have := sr.cLlen rx e; simp; omega) (r2.dropLast) rfl r3 o⟩
    · exact o.elim
  · exact o.elim
def popAtOp (x : D) (xs : List D) (h : Hh) : Res D := match cellL h x, xs with
  | some (n, ys), [.int i] => if (decide (-(2 ^ 63) ≤ i) && decide (i < 2 ^ 63)) = true then match seqIndex? i ys.length with
    | some k => match ys[k]? with
      | some y => .ok y (h.set n (.lst (ys.eraseIdx k)))
      | none => .bad
    | none => .bad
    else .bad
  | _, _ => .bad
theorem opM_popAt : OpM K rPopAt popAtOp := by
  intro W x u xs us sg H Q o
  replace o := o.met
  obtain ⟨mu, Z, h, sr, rx, rp, o⟩ := o
  unfold popAtOp at o
  split at o
  · rename_i n ys i e
    split at o
    · rename_i hi
      simp only [Bool.and_eq_true, decide_eq_true_eq] at hi
      split at o
      · rename_i k ek
        split at o
        · rename_i y ey
          obtain ⟨a, vs, rfl, hm, e2, r2⟩ := sr.cL rx e
          cases rp with
          | cons r rp =>
            cases rp
            cases r
            obtain ⟨w, e3, r3⟩ := r2.get ey
            exact ⟨a, vs, i, k, w, rfl, rfl, e2, hi.1, hi.2, by rw [← r2.length]; exact ek, e3, Out.wrL sr hm (by have := sr.cLlen rx e; have := List.length_eraseIdx_le ys k; omega) (r2.erase k) rfl r3 o⟩
        · exact o.elim
      · exact o.elim
    · exact o.elim
  · exact o.elim
def insertOp (x : D) (xs : List D) (h : Hh) : Res D := match cellL h x, xs with
  | some (n, ys), [.int i, y] => if (decide (ys.length < sizeLine) && (decide (0 ≤ i) && decide (i < 2 ^ 63))) = true then .ok .non (h.set n (.lst (ys.take i.toNat ++ [y] ++ ys.drop i.toNat))) else .bad
  | _, _ => .bad
def rInsert : V → List V → Hp → VK → Prop := fun x vs H Q => ∃ (l : Addr) (xs : List V) (i : Int) (y : V), x = .ref l ∧ vs = [.int i, y] ∧ H l = some (.lst xs) ∧ xs.length < sizeLine ∧ 0 ≤ i ∧ i < 2 ^ 63 ∧
    Q .non (upd H l (.lst (xs.take i.toNat ++ [y] ++ xs.drop i.toNat)))
theorem opM_insert : OpM K rInsert insertOp := by
  intro W x u xs us sg H Q o
  replace o := o.met
  obtain ⟨mu, Z, h, sr, rx, rp, o⟩ := o
  unfold insertOp at o
  split at o
  · rename_i n ys i y e
    split at o
    · rename_i hi
      simp only [Bool.and_eq_true, decide_eq_true_eq] at hi
      obtain ⟨a, vs, rfl, hm, e2, r2⟩ := sr.cL rx e
      cases rp with
      | cons r rp =>
        cases rp with
        | cons r1 rp =>
          cases rp
          cases r
          exact ⟨a, vs, i, _, rfl, rfl, e2, by rw [← r2.length]; exact hi.1, hi.2.1, hi.2.2, Out.wrL sr hm (by simp; omega) (((r2.take _).append (.cons r1 .nil)).append (r2.drop _)) rfl .non o⟩
    · exact o.elim
  · exact o.elim
/-- the first place of an equal one -/
def findD (x : D) : List D → Option Nat
  | [] => none
  | y :: ys => if eqv y x = true then some 0 else (findD x ys).map (· + 1)
theorem findD_some {x : D} : ∀ {xs : List D} {j : Nat}, findD x xs = some j → ∃ y, xs[j]? = some y ∧ eqv y x = true ∧ ∀ m z, m < j → xs[m]? = some z → eqv z x = false
  | [], j, h => by simp [findD] at h
  | y :: ys, j, h => by
    unfold findD at h
    by_cases hy : eqv y x = true
    · rw [if_pos hy] at h
      cases h
      exact ⟨y, rfl, hy, fun m z hm _ => absurd hm (Nat.not_lt_zero m)⟩
    · rw [if_neg hy] at h
      cases q : findD x ys with
      | none => rw [q] at h; cases h
      | some k =>
        rw [q] at h
        cases h
        obtain ⟨z, h1, h2, h3⟩ := findD_some q
        refine ⟨z, by simpa using h1, h2, fun m w hm hw => ?_⟩
        cases m with
        | zero => simp at hw; subst hw; simpa using hy
        | succ m => exact h3 m w (by have h5 : m + 1 < k + 1 := hm; omega) (by simpa using hw)
def indexOp (x : D) (xs : List D) (h : Hh) : Res D := match lsOf h x, xs with
  | some ys, [y] => if (okD y && okDs ys) = true then match findD y ys with
    | some j => .ok (.int (j : Nat)) h
    | none => .bad
    else .bad
  | _, _ => .bad
theorem toPys_get : ∀ (ys : List D) (j : Nat), (toPys ys)[j]? = (ys[j]?).map toPy
  | [], j => by simp [toPys]
  | y :: ys, 0 => by simp [toPys]
  | y :: ys, j + 1 => by simp [toPys, toPys_get ys j]
theorem plains_get : ∀ {ys : List D} {j : Nat} {y : D}, plains ys = true → ys[j]? = some y → plain y = true
  | [], j, _, _, h => by simp at h
  | y :: ys, 0, z, hp, h => by
    simp only [plains, Bool.and_eq_true] at hp
    simp at h
    subst h
    exact hp.1
  | y :: ys, j + 1, z, hp, h => by
    simp only [plains, Bool.and_eq_true] at hp
    exact plains_get hp.2 (by simpa using h)
theorem shaped_of {d : D} (hd : okD d = true) (hc : (toPy d).canLay0 = true) : SeqAt.shaped (toPy d) = true := by
  unfold okD at hd
  simp only [Bool.and_eq_true, decide_eq_true_eq] at hd
  unfold SeqAt.shaped
  rw [hc, dep_toPy d hd.1]
  simpa using hd.2
theorem opM_index : OpM K (rIndexD K) indexOp := by
  intro W x u xs us sg H Q o
  replace o := o.met
  obtain ⟨mu, Z, h, sr, rx, rp, o⟩ := o
  unfold indexOp at o
  split at o
  · rename_i ys y e
    split at o
    · rename_i hc
      obtain ⟨h1, h2⟩ := Bool.and_eq_true_iff.mp hc
      split at o
      · rename_i j ej
        obtain ⟨a, vs, rfl, q, r2⟩ := sr.ls rx e
        cases rp with
        | cons r rp =>
          cases rp
          have hpy := okD_plain h1
          obtain ⟨dy, cy⟩ := r.dp sr.zin hpy
          have hps : plains ys = true := by
            unfold okDs at h2
            simp only [Bool.and_eq_true] at h2
            exact h2.1
          obtain ⟨q1, q2⟩ := r2.dp sr.zin hps
          obtain ⟨z, z1, z2, z3⟩ := findD_some ej
          have shl := shaped_of (d := .lst ys) (okDs_tup h2).2 (by simpa [toPy, PyData.canLay0] using q2)
          simp only [toPy] at shl
          refine ⟨a, _, toPy y, toPys ys, j, toPy z, rfl, rfl, .lst (SqL.of q) q1, dy, shl, shaped_of h1 cy, by rw [toPys_get, z1]; rfl, by rw [eqv_toPy z y (plains_get hps z1) hpy]; exact z2, fun m z' hm hz' => ?_, Out.val sr rfl (.int _) o⟩
          rw [toPys_get] at hz'
          cases e3 : ys[m]? with
          | none => rw [e3] at hz'; cases hz'
          | some w =>
            rw [e3] at hz'
            cases hz'
            rw [eqv_toPy w y (plains_get hps e3) hpy]
            exact z3 m w hm e3
      · exact o.elim
    · exact o.elim
  · exact o.elim
end
/-- t.index(x) of a tuple of data -/
def rIndexT (K : PySem.W.Frag) : V → List V → Hp → VK → Prop := fun x xs H Q => ∃ (a : Addr) (y : V) (d : PyData) (ds : List PyData) (j : Nat) (z : PyData), x = V.ref a ∧ xs = [y] ∧ Dp K H (V.ref a) (.tuple ds) ∧ Dp K H y d ∧
  SeqAt.shaped (.tuple ds) = true ∧ SeqAt.shaped d = true ∧ ds[j]? = some z ∧ PyData.eqv z d = true ∧ (∀ (m : Nat) (z' : PyData), m < j → ds[m]? = some z' → PyData.eqv z' d = false) ∧ Q (.int (j : Nat)) H
theorem mt_indexT {X : Cx} (hu : X.A.units + 65 < cLine) : MtR X "tuple.index" (rIndexT X.K) := by
  intro pins s σ H x xs v us Q I rx rxs h
  obtain ⟨a, y, d, ds, j, z, rfl, rfl, hl, hy, sl, sd, hz, hzj, hno, q⟩ := h
  cases rx
  cases rxs with
  | cons ry rt =>
    rename_i uy ut
    cases rt
    obtain ⟨bs, r1⟩ := Dp.reads I d y uy hy ry
    have hxs : PyData.canLayAll0 ds = true := shaped_tup sl
    have hroom : X.A.units + 1 + min (PyData.depthAll ds) d.depth < cLine := room_tup sd hu
    cases hl with
    | tup hs ha =>
      obtain ⟨its, rv, ⟨⟨cls, dd, data, sls⟩, ho, hc, n, hdt⟩, hlen⟩ := I.tuple hs
      simp only at hc hdt
      subst hc hdt
      obtain ⟨as, h4⟩ := Dp.readsAll I ds _ its ha rv
      have hn : its.length = ds.length := SeqAt.ReadsAll.length ds its as h4
      have hmap : its.map (SeqAt.readOf s.heap) = ds := SeqAt.readsAll_map ds its as hxs h4
      obtain ⟨hjd, _⟩ := List.getElem?_eq_some_iff.mp hz
      have hjl : j < its.length := by omega
      have hj : j < its.toArray.size := by simpa using hjl
      have at_ : ∀ (m : Nat) (hm : m < its.toArray.size) (z' : PyData), ds[m]? = some z' → SeqAt.readOf s.heap its.toArray[m] = z' := by
        intro m hm z' hz'
        have hml : m < its.length := by simpa using hm
        rw [← hmap, List.getElem?_map, List.getElem?_eq_getElem hml] at hz'
        have e1 : SeqAt.readOf s.heap its[m] = z' := Option.some.inj (show some (SeqAt.readOf s.heap its[m]) = some z' from hz')
        simpa using e1
      refine call_meets PySem.F.slot_tuple_index ⟨_, ho, rfl⟩ PySem.F.entry_tuple_index (PySem.F.args_tuple_index_2 _ _)
        (TI.tuple_indexAt a its.toArray n dd sls uy (fun u => PyData.eqv (SeqAt.readOf s.heap u) d) j hj ?_ ?_) ⟨ho, SeqAt.items_eqAt (vs := its.toArray) (show ReadsAll s.heap its.toArray.toList ds as from h4) r1 hxs (SeqAt.canLay_of_shaped sd) hroom, ?_⟩
      · show PyData.eqv (SeqAt.readOf s.heap its.toArray[j]) d = true
        rw [at_ j hj z hz]
        exact hzj
      · intro m hm hmj
        have hmd : m < ds.length := by omega
        have hz' : ds[m]? = some ds[m] := List.getElem?_eq_getElem hmd
        show PyData.eqv (SeqAt.readOf s.heap its.toArray[m]) d = false
        rw [at_ m hm _ hz']
        exact hno m _ hmj hz'
      · exact ⟨.int (j : Nat), H, I.tok _, ⟨_, rfl⟩, q⟩
def indexTOp (x : D) (xs : List D) (h : Hh) : Res D := match x, xs with
  | .tup ys, [y] => if (okD y && okDs ys) = true then match findD y ys with
    | some j => .ok (.int (j : Nat)) h
    | none => .bad
    else .bad
  | _, _ => .bad
theorem opM_indexT {K : PySem.W.Frag} : OpM K (rIndexT K) indexTOp := by
  intro W x u xs us sg H Q o
  replace o := o.met
  obtain ⟨mu, Z, h, sr, rx, rp, o⟩ := o
  unfold indexTOp at o
  split at o
  · rename_i ys y
    split at o
    · rename_i hc
      obtain ⟨h1, h2⟩ := Bool.and_eq_true_iff.mp hc
      split at o
      · rename_i j ej
        cases rx with
        | tup q r2 _ =>
          cases rp with
          | cons r rp =>
            cases rp
            have hpy := okD_plain h1
            obtain ⟨dy, cy⟩ := r.dp sr.zin hpy
            have hps : plains ys = true := by
              unfold okDs at h2
              simp only [Bool.and_eq_true] at h2
              exact h2.1
            obtain ⟨q1, q2⟩ := r2.dp sr.zin hps
            obtain ⟨z, z1, z2, z3⟩ := findD_some ej
            have shl := shaped_of (d := .tup ys) (okDs_tup h2).1 (by simpa [toPy, PyData.canLay0] using q2)
            simp only [toPy] at shl
            refine ⟨_, _, toPy y, toPys ys, j, toPy z, rfl, rfl, .tup (sr.zin.tupZ q).sq q1, dy, shl, shaped_of h1 cy, by rw [toPys_get, z1]; rfl, by rw [eqv_toPy z y (plains_get hps z1) hpy]; exact z2, fun m z' hm hz' => ?_, Out.val sr rfl (.int _) o⟩
            rw [toPys_get] at hz'
            cases e3 : ys[m]? with
            | none => rw [e3] at hz'; cases hz'
            | some w =>
              rw [e3] at hz'
              cases hz'
              rw [eqv_toPy w y (plains_get hps e3) hpy]
              exact z3 m w hm e3
      · exact o.elim
    · exact o.elim
  · exact o.elim
end TB
end

section
set_option Elab.async false
set_option linter.all false
set_option maxRecDepth 100000
set_option autoImplicit false
set_option maxHeartbeats 1000000
/-! TB9: what is walked; targets; statements; loops. -/
namespace TB
open PySem PySem.Spec PyProof.Rows L2
variable [LC] [LT]

/-! ### what is walked -/
abbrev Lk := Option (Nat × Ob)
def lockOk (lk : Lk) (h : Hh) : Prop := match lk with
  | none => True
  | some (n, ob) => h[n]? = some ob
abbrev IM := Sl → Hh → Res (List D × Lk)
/-- J yields just these -/
structure Walked (K : PySem.W.Frag) (mu0 : List Addr) (Z0 : Hp) (lk : Lk) (J : It) (items : List D) : Prop where
  len : items.length ≤ sizeLine
  go : ∀ mu Z H h (i : Nat), SR K mu Z H h → (∃ nu, mu = mu0 ++ nu) → Sub Z0 Z → lockOk lk h → i < items.length → J.go i H
  yl : ∀ mu Z H h (i : Nat) x H', SR K mu Z H h → (∃ nu, mu = mu0 ++ nu) → Sub Z0 Z → lockOk lk h → i < items.length → J.yld i H x H' → ∃ Z', SR K mu Z' H' h ∧ Stp mu Z H mu Z' H' ∧ ∃ d, items[i]? = some d ∧ Rep K mu Z' d x
  st : ∀ mu Z H h, SR K mu Z H h → (∃ nu, mu = mu0 ++ nu) → Sub Z0 Z → lockOk lk h → J.stop items.length H
def tI (K : PySem.W.Frag) (W : WXx) (im : IM) : TI := fun sg H R => tR K W im sg H fun p mu1 Z1 H1 => ∀ J, Walked K mu1 Z1 p.2 J p.1 → R J H1
def SI (W : WXx) (X : Cx) (tg e : Expr) (im : IM) : Prop := PI X tg e (tI X.K W im)
theorem PI.imp {X : Cx} {tg e : Expr} {t t' : TI} (h : PI X tg e t) (hi : ∀ sg H R, t' sg H R → t sg H R) : PI X tg e t' := ⟨fun pins s σ H R I q => h.run pins s σ H R I (hi _ _ _ q)⟩
section
variable {X : Cx} {tg : Expr}
def iAny (K : PySem.W.Frag) (tl : TE) : TI := fun σ H R => tl σ H fun x H1 => (∃ a, x = .ref a ∧ (∃ xs, SqL K H1 a xs) ∧ R (Itl K a) H1) ∨ (∃ a, x = .ref a ∧ (∃ xs, SqT K H1 a xs) ∧ R (Itt K a) H1) ∨
  (∃ z, x = .str z ∧ R (Its z) H1) ∨ ∃ d o kvs, x = .ref d ∧ H1 d = some (.frz o (.dK kvs)) ∧ R (Itk d o kvs) H1
theorem pi_any {l : Expr} {tl : TE} (hl : PE X l tl) : PI X tg l (iAny X.K tl) := by
  refine ⟨fun pins s σ H R I h => ?_⟩
  refine thn (hl.run pins s σ H _ I h) fun v s1 ⟨x, H1, I1, r1, q1⟩ => ?_
  rcases q1 with ⟨a, e, ⟨xs, hq⟩, q⟩ | ⟨a, e, ⟨xs, hq⟩, q⟩ | ⟨z, e, q⟩ | ⟨d, o, kvs, e, hd, q⟩
  · subst e
    cases r1
    obtain ⟨its, rv, p, hz⟩ := I1.list hq
    refine wpAny_pyIter_list p.isList ?_
    refine ⟨s1.heap.objs.size, [s1.heap.objs.size], _, _, H1, rfl, I1.kept (t' := s1.toks) fun b o e => Heap.get?_push_of_some _ e, turn_list a _, ⟨_, Heap.get?_push_size _ rfl, rfl, rfl⟩, fun b hb => ?_, q⟩
    have e : b = s1.heap.objs.size := by simpa using hb
    subst e
    exact I1.fpOk (Nat.le_refl _) (I1.hok.fresh (Nat.le_refl _))
  · subst e
    cases r1
    obtain ⟨its, rv, p, hz⟩ := I1.tuple hq
    refine wpAny_pyIter_tuple (show s1.heap.IsTuple a its.toArray from p) ?_
    refine ⟨s1.heap.objs.size, [s1.heap.objs.size], _, _, H1, rfl, I1.kept (t' := s1.toks) fun b o e => Heap.get?_push_of_some _ e, turn_tuple a _, ⟨_, Heap.get?_push_size _ rfl, rfl, rfl⟩, fun b hb => ?_, q⟩
    have e : b = s1.heap.objs.size := by simpa using hb
    subst e
    exact I1.fpOk (Nat.le_refl _) (I1.hok.fresh (Nat.le_refl _))
  · subst e
    obtain ⟨t, rfl⟩ := r1
    cases ha : z.cps.all (· < 128)
    · exact wpAny_pyIter_wide ha (pi_one (tk := s1.toks) I1 _ (turn_str _ z t "str_iterator" (.inr rfl)) ⟨_, Heap.get?_push_size _ rfl, rfl, rfl⟩ q)
    · exact wpAny_pyIter_ascii ha (pi_one (tk := s1.toks) I1 _ (turn_str _ z t "str_ascii_iterator" (.inl rfl)) ⟨_, Heap.get?_push_size _ rfl, rfl, rfl⟩ q)
  · subst e
    obtain rfl : v = Value.ref d := r1
    obtain ⟨hs, hgd, hx, es, ep, vs, hdt, hsz, kv, hm⟩ := I1.frzK hd
    refine iter_keys hs hgd hx hdt (pi_one (tk := s1.toks) I1 _ (turn_keys _ hdt) ⟨_, Heap.get?_push_size _ rfl, rfl, ?_⟩ q)
    rw [hsz] <;> rfl
end
/-- the items of a value that is walked -/
def itOp (x : D) (h : Hh) : Res (List D × Lk) := match x with
  | .tup xs => .ok (xs, none) h
  | .lst xs => .ok (xs, none) h
  | .scr ns => .ok (ns.map D.int, none) h
  | .str z => .ok (z.cps.toList.map fun c => .str ⟨#[c]⟩, none) h
  | .dic ks => .ok (ks.map fun kv => keyD kv.1, none) h
  | .ref n => match h[n]? with
    | some (.lst xs) => .ok (xs, some (n, .lst xs)) h
    | _ => .bad
  | _ => .bad
def mIt (fa : EM) : IM := fun s h => (fa s h).bind itOp
section
variable {K : PySem.W.Frag} {mu : List Addr} {Z H : Hp}
theorem rdFrz_inj {a : Addr} {o : Obj} {xs : List V} {vs : List V} (h : H a = some (.frz o (.tup xs))) (t : SqT K H a vs) : SqT K H a vs := t
end
section
variable {K : PySem.W.Frag} {mu0 : List Addr} {Z0 : Hp}
theorem walked_list {a : Addr} {vs : List V} {xs : List D} (hz : Z0 a = some (.lst vs)) (r : Reps K mu0 Z0 xs vs) (ln : xs.length ≤ sizeLine) : Walked K mu0 Z0 none (Itl K a) xs where
  len := ln
  go := fun mu Z H h i sr hm hs _ hi => by
    have e := sr.zin _ _ (hs _ _ hz)
    exact ⟨vs, vs[i]'(by rw [← r.length]; exact hi), SqL.of e, by simp⟩
  yl := fun mu Z H h i x H' sr hm hs _ hi y => by
    obtain ⟨rfl, y⟩ := y
    have e := y vs (SqL.of (sr.zin _ _ (hs _ _ hz)))
    obtain ⟨d, e1, r1⟩ := r.get' e
    exact ⟨Z, sr, Stp.refl _ _ _, d, e1, r1.mono (pre_get hm) hs⟩
  st := fun mu Z H h sr hm hs _ => ⟨vs, SqL.of (sr.zin _ _ (hs _ _ hz)), by rw [r.length]; exact Nat.le_refl _⟩
theorem walked_scr {a : Addr} {ns : List Int} (hz : SqL K Z0 a (ns.map V.int)) (ln : ns.length ≤ sizeLine) : Walked K mu0 Z0 none (Itl K a) (ns.map D.int) where
  len := by simpa using ln
  go := fun mu Z H h i sr hm hs _ hi => by
    have e := sr.zin.sqL (hs.sqL hz)
    exact ⟨_, .int (ns[i]'(by simpa using hi)), e, by simp⟩
  yl := fun mu Z H h i x H' sr hm hs _ hi y => by
    obtain ⟨rfl, y⟩ := y
    have e := y _ (sr.zin.sqL (hs.sqL hz))
    obtain ⟨d, e1, r1⟩ := (ints_rep (K := K) (mu := mu0) (Z := Z0) ns).get' e
    exact ⟨Z, sr, Stp.refl _ _ _, d, e1, r1.mono (pre_get hm) hs⟩
  st := fun mu Z H h sr hm hs _ => ⟨_, sr.zin.sqL (hs.sqL hz), by simp⟩
theorem walked_tup {a : Addr} {vs : List V} {xs : List D} (hz : TupZ K Z0 a vs) (r : Reps K mu0 Z0 xs vs) (ln : xs.length ≤ sizeLine) : Walked K mu0 Z0 none (Itt K a) xs where
  len := ln
  go := fun mu Z H h i sr hm hs _ hi => by
    have e := (sr.zin.tupZ (hs.tupZ hz)).sq
    exact ⟨vs, vs[i]'(by rw [← r.length]; exact hi), e, by simp⟩
  yl := fun mu Z H h i x H' sr hm hs _ hi y => by
    obtain ⟨rfl, y⟩ := y
    have e := y vs (sr.zin.tupZ (hs.tupZ hz)).sq
    obtain ⟨d, e1, r1⟩ := r.get' e
    exact ⟨Z, sr, Stp.refl _ _ _, d, e1, r1.mono (pre_get hm) hs⟩
  st := fun mu Z H h sr hm hs _ => ⟨vs, (sr.zin.tupZ (hs.tupZ hz)).sq, by rw [r.length]; exact Nat.le_refl _⟩
theorem walked_str {z : Str} (hz : SOk z) : Walked K mu0 Z0 none (Its z) (z.cps.toList.map fun c => .str ⟨#[c]⟩) where
  len := by have := hz.len; simpa [Str.length] using this
  go := fun mu Z H h i sr hm hs _ hi => by simpa [Its] using hi
  yl := fun mu Z H h i x H' sr hm hs _ hi y => by
    obtain ⟨rfl, c, e, rfl⟩ := y
    have e' : z.cps.toList[i]? = some c := by simpa using e
    exact ⟨Z, sr, Stp.refl _ _ _, .str ⟨#[c]⟩, by rw [List.getElem?_map, e']; rfl, .str (sign_ok hz (List.mem_of_getElem? e'))⟩
  st := fun mu Z H h sr hm hs _ => by simp [Its]
theorem keyD_rep (k : Key) {mu : List Addr} {Z : Hp} (hk : KOk k) : Rep K mu Z (keyD k) (kV k) := by
  cases k with
  | inl i => exact .int i
  | inr x => exact .str hk
theorem walked_dic {a : Addr} {o : Obj} {ks : List (Key × D)} {kvs : List (Key × V)} (hz : Z0 a = some (.frz o (.dK kvs))) (ek : ks.map (·.1) = kvs.map (·.1)) (ok : (∀ k, k ∈ ks.map (·.1) → KOk k) ∧ ks.length ≤ sizeLine) : Walked K mu0 Z0 none (Itk a o kvs) (ks.map fun kv => keyD kv.1) where
  len := by simpa using ok.2
  go := fun mu Z H h i sr hm hs _ hi => ⟨sr.zin _ _ (hs _ _ hz), by
    have := congrArg List.length ek
    simp at this hi
    omega⟩
  yl := fun mu Z H h i x H' sr hm hs _ hi y => by
    obtain ⟨rfl, k, v, e, rfl⟩ := y
    have e1 : (ks.map (·.1))[i]? = some k := by rw [ek, List.getElem?_map, e]; rfl
    rw [List.getElem?_map] at e1
    cases e2 : ks[i]? with
    | none => rw [e2] at e1; cases e1
    | some p =>
      rw [e2] at e1
      cases e1
      exact ⟨Z, sr, Stp.refl _ _ _, keyD p.1, by rw [List.getElem?_map, e2]; rfl, keyD_rep _ (ok.1 _ (List.mem_map_of_mem (List.mem_of_getElem? e2)))⟩
  st := fun mu Z H h sr hm hs _ => ⟨sr.zin _ _ (hs _ _ hz), by
    have := congrArg List.length ek
    simp at this ⊢
    omega⟩
theorem walked_cell {a : Addr} {n : Nat} {xs : List D} (hm0 : mu0[n]? = some a) (ln : xs.length ≤ sizeLine) : Walked K mu0 Z0 (some (n, .lst xs)) (Itl K a) xs where
  len := ln
  go := fun mu Z H h i sr hm hs lk hi => by
    obtain ⟨_, vs, e, r⟩ := sr.cell n _ a lk (pre_get hm _ _ hm0)
    exact ⟨vs, vs[i]'(by rw [← r.length]; exact hi), SqL.of e, by simp⟩
  yl := fun mu Z H h i x H' sr hm hs lk hi y => by
    obtain ⟨rfl, y⟩ := y
    obtain ⟨_, vs, e0, r⟩ := sr.cell n _ a lk (pre_get hm _ _ hm0)
    have e := y vs (SqL.of e0)
    obtain ⟨d, e1, r1⟩ := r.get' e
    exact ⟨Z, sr, Stp.refl _ _ _, d, e1, r1⟩
  st := fun mu Z H h sr hm hs lk => by
    obtain ⟨_, vs, e, r⟩ := sr.cell n _ a lk (pre_get hm _ _ hm0)
    exact ⟨vs, SqL.of e, by rw [r.length]; exact Nat.le_refl _⟩
end
section
variable {W : WXx} {X : Cx} {a b c e tg : Expr} {fa fb fc : EM} {fr : AM} {p pos : Pos}
theorem si_any (ha : SE W X a fa) : SI W X tg a (mIt fa) := PI.imp (pi_any ha) fun sg H R o => by
  refine tA.mono (tR.seqE (k := fun x _ h => itOp x h) o) fun u H1 ⟨x, q⟩ => ?_
  obtain ⟨mu, Z, h, s, sr, sl, rp, o⟩ := q
  cases rp with
  | cons r _ =>
    unfold itOp at o
    split at o
    · cases r with
      | tup q rp ln => exact .inr (.inl ⟨_, rfl, ⟨_, (sr.zin.tupZ q).sq⟩, o mu Z H1 sr (Stp.refl _ _ _) _ (walked_tup q rp ln)⟩)
    · cases r with
      | lst q rp ln => exact .inl ⟨_, rfl, ⟨_, SqL.of (sr.zin _ _ q)⟩, o mu Z H1 sr (Stp.refl _ _ _) _ (walked_list q rp ln)⟩
    · cases r with
      | scr q ln => exact .inl ⟨_, rfl, ⟨_, sr.zin.sqL q⟩, o mu Z H1 sr (Stp.refl _ _ _) _ (walked_scr q ln)⟩
    · cases r with
      | str q => exact .inr (.inr (.inl ⟨_, rfl, o mu Z H1 sr (Stp.refl _ _ _) _ (walked_str q)⟩))
    · cases r with
      | dic q ek ok rp => exact .inr (.inr (.inr ⟨_, _, _, rfl, sr.zin _ _ q, o mu Z H1 sr (Stp.refl _ _ _) _ (walked_dic q ek ok)⟩))
    · rename_i n
      dsimp only at o
      split at o
      · rename_i xs en
        obtain ⟨ad, rfl, hm, ln, vs, e2, r2⟩ := sr.cellAt en r
        exact .inl ⟨_, rfl, ⟨_, SqL.of e2⟩, o mu Z H1 sr (Stp.refl _ _ _) _ (walked_cell hm ln)⟩
      · exact o.elim
    · exact o.elim
/-- range(n), range(a, b) -/
def rngD (lo hi : Int) : List D := (List.range (hi - lo).toNat).map fun i => .int (lo + (i : Nat))
def rngOp (xs : List D) (h : Hh) : Res (List D × Lk) := match xs with
  | [.int j] => if (decide (-(2 ^ 62) ≤ j) && decide (j ≤ 16777216)) = true then .ok (rngD 0 j, none) h else .bad
  | _ => .bad
def rngOp2 (xs : List D) (h : Hh) : Res (List D × Lk) := match xs with
  | [.int i, .int j] => if ((decide (-(2 ^ 62) ≤ i) && decide (i < 2 ^ 62)) && ((decide (-(2 ^ 62) ≤ j) && decide (j < 2 ^ 62)) && decide (j - i ≤ 16777216))) = true then .ok (rngD i j, none) h else .bad
  | _ => .bad
def mRng (fr : AM) : IM := fun s h => (fr s h).bind rngOp
def mRng2 (fr : AM) : IM := fun s h => (fr s h).bind rngOp2
theorem walked_rng {K : PySem.W.Frag} {mu0 : List Addr} {Z0 : Hp} (lo hi : Int) (ln : hi - lo ≤ 16777216) : Walked K mu0 Z0 none (Itr lo (hi - lo).toNat) (rngD lo hi) where
  len := by
    have := sizeLine_eq
    simp [rngD]
    omega
  go := fun mu Z H h i sr hm hs _ hi' => by
    show i < (hi - lo).toNat
    simpa [rngD] using hi'
  yl := fun mu Z H h i x H' sr hm hs _ hi' y => by
    obtain ⟨rfl, rfl⟩ := y
    refine ⟨Z, sr, Stp.refl _ _ _, .int (lo + (i : Nat)), ?_, .int _⟩
    unfold rngD at hi' ⊢
    rw [List.length_map, List.length_range] at hi'
    rw [List.getElem?_map, List.getElem?_range hi']
    rfl
  st := fun mu Z H h sr hm hs _ => by
    show (hi - lo).toNat ≤ (rngD lo hi).length
    simp [rngD]
end
end TB
end

section
set_option Elab.async false
set_option linter.all false
set_option maxRecDepth 100000
set_option autoImplicit false
set_option maxHeartbeats 1000000
/-! TB10: targets, statements, loops. -/
namespace TB
open PySem PySem.Spec PyProof.Rows L2
variable [LC] [LT]

/-- argument values that are still to be used -/
def tB3 (K : PySem.W.Frag) (W : WXx) (vs : List D) (us : List V) {α : Type} (f : Sl → Hh → Res α) (sg : L2.St) (H : Hp) (P : α → List Addr → Hp → Hp → Prop) : Prop := tB2 K W vs us f sg H P
theorem seqAsR {K : PySem.W.Frag} {W : WXx} {α : Type} {f : List D → Hh → Res α} {fr : AM} {sg : L2.St} {H : Hp} {P : α → List Addr → Hp → Hp → Prop} (o : tR K W (fun s h => (fr s h).bind f) sg H P) : tAs K W fr sg H fun us H1 => ∃ xs, tB2 K W xs us (fun _ h => f xs h) sg H1 P := by
  obtain ⟨mu, Z, h, s, sr, sl, o⟩ := o
  refine ⟨mu, Z, h, s, sr, sl, ?_⟩
  cases e : fr s h with
  | ok xs h2 =>
    simp only [e, Res.bind_ok] at o
    exact fun mu1 Z1 H2 sr1 p1 us ru => ⟨xs, mu1, Z1, h2, s, sr1, sl.mono p1, ru, Out.mono p1 o fun _ _ _ _ _ _ q => q⟩
  | ex x h1 =>
    simp only [e, Res.bind_ex] at o
    exact o
  | bad =>
    simp only [e, Res.bind_bad] at o
    exact o.elim
section
variable {W : WXx} {X : Cx} {a b c e tg : Expr} {fa fb fc : EM} {fr : AM} {p pos : Pos}
theorem si_rng1 {fr : AM} (hg : Gl X "range") (hm : X.mg "range" = none) (ha : SA W X [a] fr) (hs : starEach [a] X.env = [(false, eval a X.env)] := by rfl) : SI W X tg (.Call (.Name "range" p) [a] [] pos) (mRng fr) :=
  PI.imp (pi_range1 hg hm ha hs) fun sg H R o => by
    refine tAs.mono (seqAsR o) fun us H1 ⟨xs, q⟩ => ?_
    obtain ⟨mu, Z, h, s, sr, sl, rp, o⟩ := q
    unfold rngOp at o
    split at o
    · rename_i j
      split at o
      · rename_i hc
        simp only [Bool.and_eq_true, decide_eq_true_eq] at hc
        cases rp with
        | cons r rp =>
          cases rp
          cases r
          have e : j.toNat = (j - 0).toNat := by rw [Int.sub_zero]
          refine ⟨j, rfl, hc.1, by omega, ?_⟩
          rw [e]
          exact o mu Z H1 sr (Stp.refl _ _ _) _ (walked_rng 0 j (by omega))
      · exact o.elim
    · exact o.elim
theorem si_rng2 {fr : AM} (hg : Gl X "range") (hm : X.mg "range" = none) (ha : SA W X [a, b] fr) (hs : starEach [a, b] X.env = [(false, eval a X.env), (false, eval b X.env)] := by rfl) (hs2 : starEach [b] X.env = [(false, eval b X.env)] := by rfl) : SI W X tg (.Call (.Name "range" p) [a, b] [] pos) (mRng2 fr) :=
  PI.imp (pi_range2 hg hm ha hs hs2) fun sg H R o => by
    refine tAs.mono (seqAsR o) fun us H1 ⟨xs, q⟩ => ?_
    obtain ⟨mu, Z, h, s, sr, sl, rp, o⟩ := q
    unfold rngOp2 at o
    split at o
    · rename_i i j
      split at o
      · rename_i hc
        simp only [Bool.and_eq_true, decide_eq_true_eq] at hc
        cases rp with
        | cons r rp =>
          cases rp with
          | cons r2 rp =>
            cases rp
            cases r
            cases r2
            exact ⟨i, j, rfl, ⟨hc.1.1, hc.1.2, hc.2.1.1, hc.2.1.2⟩, o mu Z H1 sr (Stp.refl _ _ _) _ (walked_rng i j hc.2.2)⟩
      · exact o.elim
    · exact o.elim
end

/-! ### targets -/
abbrev GM := D → Sl → Hh → Res Sl
def tG (K : PySem.W.Frag) (W : WXx) (g : GM) : TG := fun v sg H Q => ∃ mu Z h s d, SR K mu Z H h ∧ SltR K mu Z s sg ∧ Rep K mu Z d v ∧
  Out K mu Z H (g d s h) (fun c e H' => W c e sg H') fun s' mu' Z' H' _ => ∀ sg', SltR K mu' Z' s' sg' → Q sg' H'
def SG (W : WXx) (X : Cx) (tg : Expr) (g : GM) : Prop := PG X tg (tG X.K W g)
theorem PG.imp {X : Cx} {tg : Expr} {t t' : TG} (h : PG X tg t) (hi : ∀ v sg H Q, t' v sg H Q → t v sg H Q) : PG X tg t' := ⟨fun pins s σ H v u Q I r q => h.run pins s σ H v u Q I r (hi _ _ _ _ q)⟩
theorem PGs.imp {X : Cx} {tg : List Expr} {t t' : TGs} (h : PGs X tg t) (hi : ∀ v sg H Q, t' v sg H Q → t v sg H Q) : PGs X tg t' := ⟨fun pins s σ H v u Q I r q => h.run pins s σ H v u Q I r (hi _ _ _ _ q)⟩
def gN (i : Nat) : GM := fun d s h => .ok (s.set i (some d)) h
def gSeq : List GM → List D → Sl → Hh → Res Sl
  | [], [], s, h => .ok s h
  | g :: gs, x :: xs, s, h => (g x s h).bind fun s1 h1 => gSeq gs xs s1 h1
  | _, _, _, _ => .bad
def gT (gs : List GM) : GM := fun d s h => match d with
  | .tup xs => if xs.length = gs.length then gSeq gs xs s h else .bad
  | _ => .bad
def tGs (K : PySem.W.Frag) (W : WXx) (gs : List GM) : TGs := fun vs sg H Q => ∃ mu Z h s ds, SR K mu Z H h ∧ SltR K mu Z s sg ∧ Reps K mu Z ds vs ∧
  Out K mu Z H (gSeq gs ds s h) (fun _ _ _ => True) fun s' mu' Z' H' _ => ∀ sg', SltR K mu' Z' s' sg' → Q sg' H'
/-- targets that raise nothing -/
def tGq (K : PySem.W.Frag) (g : GM) : TG := fun v sg H Q => ∃ mu Z h s d, SR K mu Z H h ∧ SltR K mu Z s sg ∧ Rep K mu Z d v ∧
  Out K mu Z H (g d s h) (fun _ _ _ => True) fun s' mu' Z' H' _ => ∀ sg', SltR K mu' Z' s' sg' → Q sg' H'
/-- g raises nothing -/
def Quiet (g : GM) : Prop := ∀ d s h e h', g d s h ≠ .ex e h'
section
variable {W : WXx} {X : Cx} {a b c e tg : Expr} {pos : Pos}
theorem sg_name (i : Nat) {x : Str} (hN : X.N.Nodup) (hi : X.N[i]? = some x := by rfl) (hx : Loc X.env.scope x := by first | exact .inl rfl | exact .inr rfl) (hf : X.fn x = true ∨ X.env.scope.names.lookup x = some .local := by first | exact .inl rfl | exact .inr rfl) : SG W X (.Name x pos) (gN i) :=
  PG.imp (pg_name hN hi hx hf) fun v sg H Q o => by
    obtain ⟨mu, Z, h, s, d, sr, sl, r, o⟩ := o
    exact o mu Z H sr (Stp.refl _ _ _) _ (sl.set i r)
def SGs (X : Cx) (es : List Expr) (gs : List GM) : Prop := PGs X es (tGs X.K (fun _ _ _ _ => True) gs)
theorem sgs_nil : SGs X [] [] := PGs.imp pgs_nil fun vs sg H Q o => by
  obtain ⟨mu, Z, h, s, ds, sr, sl, r, o⟩ := o
  cases ds with
  | nil =>
    cases r
    exact ⟨rfl, o mu Z H sr (Stp.refl _ _ _) _ sl⟩
  | cons d ds => exact o.elim
theorem sgs_cons {es : List Expr} {g : GM} {gs : List GM} (h1 : SG (fun _ _ _ _ => True) X a g) (h2 : SGs X es gs) (hs : (assignEach (a :: es) X.env).map (·.2) = assign a X.env :: (assignEach es X.env).map (·.2) := by rfl) : SGs X (a :: es) (g :: gs) :=
  PGs.imp (pgs_cons h1 h2 hs) fun vs sg H Q o => by
    obtain ⟨mu, Z, h, s, ds, sr, sl, r, o⟩ := o
    cases ds with
    | nil => exact o.elim
    | cons d ds =>
      cases r with
      | cons r rs =>
        refine ⟨_, _, rfl, mu, Z, h, s, d, sr, sl, r, ?_⟩
        unfold gSeq at o
        cases e : g d s h with
        | ok s1 h1 =>
          simp only [e, Res.bind_ok] at o
          exact fun mu1 Z1 H1 sr1 p1 sg1 sl1 => ⟨mu1, Z1, h1, s1, ds, sr1, sl1, p1.reps rs, Out.mono p1 o fun _ _ _ _ _ _ q => q⟩
        | ex x h1 => exact fun _ _ _ _ _ _ _ _ => trivial
        | bad =>
          simp only [e, Res.bind_bad] at o
          exact o.elim
theorem gN_quiet (i : Nat) : Quiet (gN i) := fun _ _ _ _ _ q => nomatch q
theorem gSeq_quiet : ∀ {gs : List GM}, (∀ g, g ∈ gs → Quiet g) → ∀ xs s h e h', gSeq gs xs s h ≠ .ex e h'
  | [], _, [], _, _, _, _, q => nomatch q
  | [], _, _ :: _, _, _, _, _, q => nomatch q
  | _ :: _, _, [], _, _, _, _, q => nomatch q
  | g :: gs, hq, x :: xs, s, h, e, h', q => by
    unfold gSeq at q
    cases e1 : g x s h with
    | ok s1 h1 =>
      rw [e1] at q
      exact gSeq_quiet (fun g hg => hq g (List.mem_cons_of_mem _ hg)) xs s1 h1 e h' q
    | ex y h1 => exact hq g List.mem_cons_self x s h y h1 e1
    | bad => rw [e1] at q; cases q
theorem gT_quiet {gs : List GM} (hq : ∀ g, g ∈ gs → Quiet g) : Quiet (gT gs) := fun d s h e h' q => by
  unfold gT at q
  split at q
  · split at q
    · exact gSeq_quiet hq _ _ _ _ _ q
    · cases q
  · cases q
theorem Out.unW {K : PySem.W.Frag} {mu : List Addr} {Z H : Hp} {α : Type} {r : Res α} {W W' : Value → Option Addr → Hp → Prop} {Q : α → List Addr → Hp → Hp → Hh → Prop} (hr : ∀ e h, r ≠ .ex e h) (o : Out K mu Z H r W Q) : Out K mu Z H r W' Q := by
  cases r with
  | ok v h => exact o
  | ex e h => exact absurd rfl (hr e h)
  | bad => exact o
theorem sg_tup {es : List Expr} {k n : Nat} {gs : List GM} (hc : X.calm = true) (h : SGs X es gs) (hq : ∀ g, g ∈ gs → Quiet g) (hl : gs.length = n) (hn : (assignEach es X.env).length = n := by rfl) (hst : (assignEach es X.env).findIdx? (·.1) = none := by rfl) : SG W X (.Tuple es k pos) (gT gs) :=
  PG.imp (pg_tup hc h hn hst) fun v sg H Q o => by
    obtain ⟨mu, Z, h, s, d, sr, sl, r, o⟩ := o
    unfold gT at o
    split at o
    · rename_i xs
      split at o
      · rename_i hx
        cases r with
        | tup q rp _ =>
          exact ⟨_, _, rfl, (sr.zin.tupZ q).sq, by rw [← rp.length, hx, hl], mu, Z, h, s, xs, sr, sl, rp, Out.unW (gSeq_quiet hq _ _ _) o⟩
      · exact o.elim
    · exact o.elim
end

/-! ### statements -/
def endF (K : PySem.W.Frag) (W : WXx) (Dn : Ends) (fl : Fl) (mu : List Addr) (Z H : Hp) : Prop := match fl with
  | .nx s => ∀ sg, SltR K mu Z s sg → Dn.nx sg H
  | .rt v => ∀ u, Rep K mu Z v u → Dn.rt u H
  | .bk s => ∀ sg, SltR K mu Z s sg → Dn.bk sg H
  | .ct s => ∀ sg, SltR K mu Z s sg → Dn.ct sg H
  | .rs e s => ∀ sg c d, SltR K mu Z s sg → ExRep K mu Z H e c d → W c d sg H
def tSv (K : PySem.W.Frag) (W : WXx) (vs : List D) (us : List V) (f : SM) (Dn : Ends) (sg : L2.St) (H : Hp) : Prop := ∃ mu Z h s, SR K mu Z H h ∧ SltR K mu Z s sg ∧ Reps K mu Z vs us ∧
  Out K mu Z H (f s h) (fun _ _ _ => False) fun fl mu' Z' H' _ => endF K W Dn fl mu' Z' H'
abbrev tS (K : PySem.W.Frag) (W : WXx) (f : SM) : TS := fun Dn sg H => tSv K W [] [] f Dn sg H
def SS (W : WXx) (X : Cx) (st : Stmt) (f : SM) : Prop := PS X st (tS X.K W f)
def SSs (W : WXx) (X : Cx) (st : List Stmt) (f : SM) : Prop := PSs X st (tS X.K W f)
/-- an expression within a statement -/
def stE {α : Type} (r : Res α) (s : Sl) (k : α → Hh → Res Fl) : Res Fl := match r with
  | .ok a h => k a h
  | .ex e h => .ok (.rs e s) h
  | .bad => .bad
section
variable {K : PySem.W.Frag} {W : WXx} {Dn : Ends} {sg : L2.St} {H : Hp}
theorem tSv.drop {vs : List D} {us : List V} {f : SM} (o : tSv K W vs us f Dn sg H) : tS K W f Dn sg H := by
  obtain ⟨mu, Z, h, s, sr, sl, rp, o⟩ := o
  exact ⟨mu, Z, h, s, sr, sl, .nil, o⟩
theorem tSv.seqE {vs : List D} {us : List V} {fa : EM} {k : D → Sl → Hh → Res Fl} (o : tSv K W vs us (fun s h => stE (fa s h) s fun v h1 => k v s h1) Dn sg H) : tE K W fa sg H fun u H1 => ∃ v, tSv K W (v :: vs) (u :: us) (k v) Dn sg H1 := by
  obtain ⟨mu, Z, h, s, sr, sl, rp, o⟩ := o
  refine ⟨mu, Z, h, s, sr, sl, .nil, ?_⟩
  cases e : fa s h with
  | ok v h1 =>
    simp only [e, stE] at o
    exact fun mu1 Z1 H1 sr1 p1 u ru => ⟨v, mu1, Z1, h1, s, sr1, sl.mono p1, .cons ru (p1.reps rp), Out.mono p1 o fun _ _ _ _ _ _ q => q⟩
  | ex x h1 =>
    simp only [e, stE] at o
    exact fun mu' Z' H' c d sr' p' ex => o mu' Z' H' sr' p' _ _ _ (sl.mono p') ex
  | bad =>
    simp only [e, stE] at o
    exact o.elim
theorem tS.seqR {α : Type} {fa : Sl → Hh → Res α} {k : α → Sl → Hh → Res Fl} (o : tS K W (fun s h => stE (fa s h) s fun v h1 => k v s h1) Dn sg H) : tR K W fa sg H fun v _ _ H1 => tS K W (k v) Dn sg H1 := by
  obtain ⟨mu, Z, h, s, sr, sl, rp, o⟩ := o
  refine ⟨mu, Z, h, s, sr, sl, ?_⟩
  cases e : fa s h with
  | ok v h1 =>
    simp only [e, stE] at o
    exact fun mu1 Z1 H1 sr1 p1 => ⟨mu1, Z1, h1, s, sr1, sl.mono p1, .nil, Out.mono p1 o fun _ _ _ _ _ _ q => q⟩
  | ex x h1 =>
    simp only [e, stE] at o
    exact fun mu' Z' H' c d sr' p' ex => o mu' Z' H' sr' p' _ _ _ (sl.mono p') ex
  | bad =>
    simp only [e, stE] at o
    exact o.elim
/-- a value, then a target -/
theorem tSv.seqG {v : D} {u : V} {g : GM} (o : tSv K W [v] [u] (fun s h => stE (g v s h) s fun s1 h1 => .ok (.nx s1) h1) Dn sg H) : tG K W g u sg H Dn.nx := by
  obtain ⟨mu, Z, h, s, sr, sl, rp, o⟩ := o
  cases rp with
  | cons r rp =>
    refine ⟨mu, Z, h, s, v, sr, sl, r, ?_⟩
    cases e : g v s h with
    | ok s1 h1 =>
      simp only [e, stE] at o
      exact fun mu1 Z1 H1 sr1 p1 sg' sl' => o mu1 Z1 H1 sr1 p1 sg' sl'
    | ex x h1 =>
      simp only [e, stE] at o
      exact fun mu' Z' H' c d sr' p' ex => o mu' Z' H' sr' p' _ _ _ (sl.mono p') ex
    | bad =>
      simp only [e, stE] at o
      exact o.elim
end
/-- what follows a block: the next turn, behind a break -/
def flow (r : Res Fl) (k kb : SM) : Res Fl := match r with
  | .ok (.nx s) h => k s h
  | .ok (.ct s) h => k s h
  | .ok (.bk s) h => kb s h
  | .ok (.rt v) h => .ok (.rt v) h
  | .ok (.rs e s) h => .ok (.rs e s) h
  | .ex _ _ => .bad
  | .bad => .bad
/-- one statement, then the next -/
def sThen (f k : SM) : SM := fun s h => match f s h with
  | .ok (.nx s1) h1 => k s1 h1
  | r => r
def sNil : SM := fun s h => .ok (.nx s) h
def sExp (fa : EM) : SM := fun s h => stE (fa s h) s fun _ h1 => .ok (.nx s) h1
def sRet (fa : EM) : SM := fun s h => stE (fa s h) s fun v h1 => .ok (.rt v) h1
def sRetN : SM := fun _ h => .ok (.rt .non) h
def sBrk : SM := fun s h => .ok (.bk s) h
def sCnt : SM := fun s h => .ok (.ct s) h
def sIf (ft : TM) (f g : SM) : SM := fun s h => stE (ft s h) s fun c h1 => if c = true then f s h1 else g s h1
def sAsg (fa : EM) (g : GM) : SM := fun s h => stE (fa s h) s fun v h1 => stE (g v s h1) s fun s1 h2 => .ok (.nx s1) h2
section
variable {W : WXx} {X : Cx} {a b c e tg : Expr} {fa fb : EM} {ft : TM} {f k : SM} {st : Stmt} {rest blk blk2 : List Stmt} {pos : Pos}
theorem tS.now {K : PySem.W.Frag} {Dn : Ends} {sg : L2.St} {H : Hp} {f : SM} (o : tS K W f Dn sg H) (hf : ∀ s h, f s h = .ok (.nx s) h) : Dn.nx sg H := by
  obtain ⟨mu, Z, h, s, sr, sl, rp, o⟩ := o
  rw [hf] at o
  exact o mu Z H sr (Stp.refl _ _ _) sg sl
theorem ss_pass : SS W X (.Pass pos) sNil := PS.imp ps_pass fun Dn sg H o => o.now fun _ _ => rfl
theorem ss_break : SS W X (.Break pos) sBrk := PS.imp ps_break fun Dn sg H o => by
  obtain ⟨mu, Z, h, s, sr, sl, rp, o⟩ := o
  exact o mu Z H sr (Stp.refl _ _ _) sg sl
theorem ss_continue : SS W X (.Continue pos) sCnt := PS.imp ps_continue fun Dn sg H o => by
  obtain ⟨mu, Z, h, s, sr, sl, rp, o⟩ := o
  exact o mu Z H sr (Stp.refl _ _ _) sg sl
theorem ss_expr (ha : SE W X a fa) (hs : swapsWith a none pos.line X.env = pure false := by rfl) : SS W X (.Expr a pos) (sExp fa) := PS.imp (ps_expr ha hs) fun Dn sg H o => by
  refine tA.mono (tSv.seqE (k := fun _ s h1 => .ok (.nx s) h1) o) fun u H1 ⟨v, q⟩ => ?_
  exact (tSv.drop q).now fun _ _ => rfl
theorem ss_ret (ha : SE W X a fa) : SS W X (.Return (some a) pos) (sRet fa) := PS.imp (ps_ret ha) fun Dn sg H o => by
  refine tA.mono (tSv.seqE (k := fun v _ h1 => .ok (.rt v) h1) o) fun u H1 ⟨v, q⟩ => ?_
  obtain ⟨mu, Z, h, s, sr, sl, rp, o⟩ := q
  cases rp with
  | cons r _ => exact o mu Z H1 sr (Stp.refl _ _ _) u r
theorem ss_retN : SS W X (.Return none pos) sRetN := PS.imp ps_retN fun Dn sg H o => by
  obtain ⟨mu, Z, h, s, sr, sl, rp, o⟩ := o
  exact o mu Z H sr (Stp.refl _ _ _) _ .non
theorem ss_if (hc : ST W X c ft) (ha : SSs W X blk f) (hb : SSs W X blk2 k) : SS W X (.If c blk blk2 pos) (sIf ft f k) := PS.imp (ps_if hc ha hb) fun Dn sg H o => by
  refine tR.mono (tS.seqR (k := fun c s h1 => if c = true then f s h1 else k s h1) o) fun c mu Z H1 q => ?_
  cases c with
  | true => exact q
  | false => exact q
theorem ss_asg {g : GM} (ha : SE W X a fa) (hg : SG W X tg g) (hs : swapsWithSole [tg] a pos.line X.env = pure false := by rfl) (hw : swappedStores [tg] a X.env = pure none := by rfl)
    (h1 : (assignEach [tg] X.env).map (·.2) = [assign tg X.env] := by rfl) : SS W X (.Assign [tg] a pos) (sAsg fa g) := PS.imp (ps_asg ha hg hs hw h1) fun Dn sg H o => by
  refine tA.mono (tSv.seqE (k := fun v s h1 => stE (g v s h1) s fun s1 h2 => .ok (.nx s1) h2) o) fun u H1 ⟨v, q⟩ => ?_
  exact tSv.seqG q
theorem sss_nil : SSs W X [] sNil := PSs.imp pss_nil fun Dn sg H o => o.now fun _ _ => rfl
theorem tS.then {K : PySem.W.Frag} {Dn : Ends} {sg : L2.St} {H : Hp} (o : tS K W (sThen f k) Dn sg H) : tS K W f { Dn with nx := tS K W k Dn } sg H := by
  obtain ⟨mu, Z, h, s, sr, sl, rp, o⟩ := o
  refine ⟨mu, Z, h, s, sr, sl, .nil, ?_⟩
  unfold sThen at o
  cases e : f s h with
  | ok fl h1 =>
    cases fl with
    | nx s1 =>
      simp only [e] at o
      exact fun mu1 Z1 H1 sr1 p1 sg1 sl1 => ⟨mu1, Z1, h1, s1, sr1, sl1, .nil, Out.mono p1 o fun _ _ _ _ _ _ q => q⟩
    | rt v => simp only [e] at o; exact o
    | bk v => simp only [e] at o; exact o
    | ct v => simp only [e] at o; exact o
    | rs x v => simp only [e] at o; exact o
  | ex x h1 => simp only [e] at o; exact o
  | bad => simp only [e] at o; exact o
theorem sss_cons (h1 : SS W X st f) (h2 : SSs W X rest k) : SSs W X (st :: rest) (sThen f k) := PSs.imp (pss_cons h1 h2) fun Dn sg H o => o.then
theorem sss_one (h1 : SS W X st f) : SSs W X [st] f := pss_one h1

/-! ### while -/
def whL (ft : TM) (f : SM) : Nat → SM
  | 0 => fun _ _ => .bad
  | n + 1 => fun s h => stE (ft s h) s fun c h1 => if c = true then flow (f s h1) (whL ft f n) sNil else .ok (.nx s) h1
theorem flowS {K : PySem.W.Frag} {Dn : Ends} {sg : L2.St} {H : Hp} {kb : SM} (hkb : ∀ s h, kb s h = .ok (.nx s) h) (o : tS K W (fun s h => flow (f s h) k kb) Dn sg H) : tS K W f { Dn with nx := tS K W k Dn, ct := tS K W k Dn, bk := Dn.nx } sg H := by
  obtain ⟨mu, Z, h, s, sr, sl, rp, o⟩ := o
  refine ⟨mu, Z, h, s, sr, sl, .nil, ?_⟩
  cases e : f s h with
  | ok fl h1 =>
    cases fl with
    | nx s1 =>
      simp only [e, flow] at o
      exact fun mu1 Z1 H1 sr1 p1 sg1 sl1 => ⟨mu1, Z1, h1, s1, sr1, sl1, .nil, Out.mono p1 o fun _ _ _ _ _ _ q => q⟩
    | ct s1 =>
      simp only [e, flow] at o
      exact fun mu1 Z1 H1 sr1 p1 sg1 sl1 => ⟨mu1, Z1, h1, s1, sr1, sl1, .nil, Out.mono p1 o fun _ _ _ _ _ _ q => q⟩
    | bk s1 =>
      simp only [e, flow, hkb] at o
      exact fun mu1 Z1 H1 sr1 p1 sg1 sl1 => o mu1 Z1 H1 sr1 p1 sg1 sl1
    | rt v => simp only [e, flow] at o; exact o
    | rs x v => simp only [e, flow] at o; exact o
  | ex x h1 => simp only [e, flow] at o; exact o.elim
  | bad => simp only [e, flow] at o; exact o
theorem ss_while (n : Nat) (hp : PassesOwn (model X.prog X.w) X.A X.env X.xe) (hc : ST W X c ft) (hb : SSs W X blk f) : SS W X (.While c blk [] pos) (whL ft f n) := PS.imp (ps_while hp hc hb) fun Dn sg H o => by
  refine ⟨fun m sg H => tS X.K W (whL ft f m) Dn sg H, ⟨n, o⟩, fun m sg H o => ?_⟩
  cases m with
  | zero =>
    obtain ⟨mu, Z, h, s, sr, sl, rp, o⟩ := o
    exact o.elim
  | succ m =>
    refine tR.mono (tS.seqR (k := fun c s h1 => if c = true then flow (f s h1) (whL ft f m) sNil else .ok (.nx s) h1) o) fun c mu Z H1 q => ?_
    cases c with
    | true =>
      rw [if_pos rfl]
      exact ⟨_, fun sg' H' q => ⟨m, Nat.lt_succ_self _, q⟩, flowS (fun _ _ => rfl) q⟩
    | false =>
      rw [if_neg Bool.false_ne_true]
      exact q.now fun _ _ => rfl

/-! ### for -/
open Classical in
noncomputable def forL (g : GM) (f : SM) (lk : Lk) : List D → SM
  | [] => fun s h => if lockOk lk h then .ok (.nx s) h else .bad
  | x :: xs => fun s h => if lockOk lk h then stE (g x s h) s fun s1 h1 => flow (f s1 h1) (forL g f lk xs) sNil else .bad
noncomputable def sFor (im : IM) (g : GM) (f : SM) : SM := fun s h => stE (im s h) s fun p h1 => forL g f p.2 p.1 s h1
theorem ss_for {im : IM} {g : GM} (hp : PassesOwn (model X.prog X.w) X.A X.env X.xe) (hc : X.calm = true) (hi : SI W X tg e im) (hg : SG W X tg g) (hb : SSs W X blk f) (hs : ∀ x, foldedSetIterable e X.env x = pure x := by intro _; rfl) :
    SS W X (.For tg e blk [] pos) (sFor im g f) := PS.imp (ps_for hp hc hi hg hb hs) fun Dn sg H o => by
  obtain ⟨mu, Z, h, s, sr, sl, rp, o⟩ := o
  refine ⟨mu, Z, h, s, sr, sl, ?_⟩
  unfold sFor at o
  cases ei : im s h with
  | ex x h1 =>
    simp only [ei, stE] at o
    exact fun mu' Z' H' c d sr' p' ex => o mu' Z' H' sr' p' _ _ _ (sl.mono p') ex
  | bad =>
    simp only [ei, stE] at o
    exact o.elim
  | ok p h1 =>
    simp only [ei, stE] at o
    intro mu1 Z1 H1 sr1 p1 J wk
    refine ⟨fun i m sg H => i ≤ p.1.length ∧ m = p.1.length - i ∧ ∃ mu Z h s, SR X.K mu Z H h ∧ SltR X.K mu Z s sg ∧ (∃ nu, mu = mu1 ++ nu) ∧ Sub Z1 Z ∧
      Out X.K mu Z H (forL g f p.2 (p.1.drop i) s h) (fun _ _ _ => False) fun fl mu' Z' H' _ => endF X.K W Dn fl mu' Z' H', ⟨p.1.length, Nat.zero_le _, by simp, mu1, Z1, h1, s, sr1, sl.mono p1, ⟨[], by simp⟩, Sub.refl _, Out.mono p1 o fun _ _ _ _ _ _ q => q⟩, ?_⟩
    rintro i m sg2 H2 ⟨hi1, rfl, mu2, Z2, h2, s2, sr2, sl2, hm2, hz2, o2⟩
    by_cases hlt : i < p.1.length
    · right
      have ed : p.1.drop i = p.1[i] :: p.1.drop (i + 1) := List.drop_eq_getElem_cons hlt
      rw [ed] at o2
      simp only [forL] at o2
      by_cases hlk : lockOk p.2 h2
      · rw [if_pos hlk] at o2
        have ext : ∀ {mu3 : List Addr} {Z3 H3 : Hp} {mu4 : List Addr} {Z4 H4 : Hp}, (∃ nu, mu3 = mu1 ++ nu) → Sub Z1 Z3 → Stp mu3 Z3 H3 mu4 Z4 H4 → (∃ nu, mu4 = mu1 ++ nu) ∧ Sub Z1 Z4 := fun hm hz p => by
          obtain ⟨nu, rfl⟩ := hm
          obtain ⟨nu', e⟩ := p.pre
          exact ⟨⟨nu ++ nu', by rw [e, List.append_assoc]⟩, hz.trans p.zm⟩
        refine ⟨wk.go mu2 Z2 H2 h2 i sr2 hm2 hz2 hlk hlt, fun sg H => ∃ mu Z h s, SR X.K mu Z H h ∧ SltR X.K mu Z s sg ∧ (∃ nu, mu = mu1 ++ nu) ∧ Sub Z1 Z ∧
          Out X.K mu Z H (forL g f p.2 (p.1.drop (i + 1)) s h) (fun _ _ _ => False) fun fl mu' Z' H' _ => endF X.K W Dn fl mu' Z' H', fun sg' H' q => ⟨p.1.length - (i + 1), by omega, hlt, rfl, q⟩, fun x H3 y => ?_⟩
        obtain ⟨Z3, sr3, p3, d, ed3, r3⟩ := wk.yl mu2 Z2 H2 h2 i x H3 sr2 hm2 hz2 hlk hlt y
        rw [List.getElem?_eq_getElem hlt] at ed3
        cases ed3
        have x3 := ext hm2 hz2 p3
        have o3 := Out.mono p3 o2 fun _ _ _ _ _ _ q => q
        refine ⟨mu2, Z3, h2, s2, p.1[i], sr3, sl2.mono p3, r3, ?_⟩
        cases eg : g p.1[i] s2 h2 with
        | ex x h1 =>
          simp only [eg, stE] at o3
          exact fun mu' Z' H' c d sr' p' ex => o3 mu' Z' H' sr' p' _ _ _ ((sl2.mono p3).mono p') ex
        | bad =>
          simp only [eg, stE] at o3
          exact o3.elim
        | ok s4 h4 =>
          simp only [eg, stE] at o3
          intro mu4 Z4 H4 sr4 p4 sg4 sl4
          have x4 := ext x3.1 x3.2 p4
          have o4 := Out.mono p4 o3 fun _ _ _ _ _ _ q => q
          refine ⟨mu4, Z4, h4, s4, sr4, sl4, .nil, ?_⟩
          cases ef : f s4 h4 with
          | ex x h1 => simp only [ef, flow] at o4; exact o4.elim
          | bad => simp only [ef, flow] at o4; exact o4
          | ok fl h5 =>
            cases fl with
            | nx s5 =>
              simp only [ef, flow] at o4
              exact fun mu5 Z5 H5 sr5 p5 sg5 sl5 => ⟨mu5, Z5, h5, s5, sr5, sl5, (ext x4.1 x4.2 p5).1, (ext x4.1 x4.2 p5).2, Out.mono p5 o4 fun _ _ _ _ _ _ q => q⟩
            | ct s5 =>
              simp only [ef, flow] at o4
              exact fun mu5 Z5 H5 sr5 p5 sg5 sl5 => ⟨mu5, Z5, h5, s5, sr5, sl5, (ext x4.1 x4.2 p5).1, (ext x4.1 x4.2 p5).2, Out.mono p5 o4 fun _ _ _ _ _ _ q => q⟩
            | bk s5 =>
              simp only [ef, flow] at o4
              exact fun mu5 Z5 H5 sr5 p5 sg5 sl5 => o4 mu5 Z5 H5 sr5 p5 sg5 sl5
            | rt v => simp only [ef, flow] at o4; exact o4
            | rs x v => simp only [ef, flow] at o4; exact o4
      · rw [if_neg hlk] at o2
        exact o2.elim
    · left
      have hi2 : i = p.1.length := by omega
      subst hi2
      rw [List.drop_length] at o2
      simp only [forL] at o2
      by_cases hlk : lockOk p.2 h2
      · rw [if_pos hlk] at o2
        exact ⟨wk.st mu2 Z2 H2 h2 sr2 hm2 hz2 hlk, o2 mu2 Z2 H2 sr2 (Stp.refl _ _ _) sg2 sl2⟩
      · rw [if_neg hlk] at o2
        exact o2.elim
end
end TB
end

section
set_option Elab.async false
set_option linter.all false
set_option maxRecDepth 100000
set_option autoImplicit false
set_option maxHeartbeats 1000000
/-! TB11: list comprehensions. -/
namespace TB
open PySem PySem.Spec PyProof.Rows L2
variable [LC] [LT]

theorem wipe_get {σ : L2.St} {j : Nat} : ∀ {vs : List Nat}, (wipe σ vs)[j]? = if j ∈ vs ∧ j < σ.length then some none else σ[j]?
  | [] => by simp [wipe]
  | v :: vs => by
    unfold wipe
    by_cases hv : v = j
    · subst hv
      by_cases hl : v < σ.length
      · rw [List.getElem?_set_self (by rw [wipe_length]; exact hl)]; simp [hl]
      · rw [List.getElem?_eq_none (by rw [List.length_set, wipe_length]; omega), List.getElem?_eq_none (by omega)]; simp [hl]
    · rw [List.getElem?_set_ne hv, wipe_get (vs := vs)]
      have : (j ∈ v :: vs) ↔ j ∈ vs := by simp [Ne.symm hv]
      simp only [this]
theorem wipe_setin {σ : L2.St} {i : Nat} {x : Option V} {vs : List Nat} (hi : i ∈ vs) : wipe (σ.set i x) vs = wipe σ vs := by
  apply List.ext_getElem?
  intro j
  rw [wipe_get, wipe_get, List.length_set]
  by_cases h : j ∈ vs ∧ j < σ.length
  · rw [if_pos h, if_pos h]
  · rw [if_neg h, if_neg h]
    by_cases e : i = j
    · subst e
      have : σ.length ≤ i := by
        rcases Nat.lt_or_ge i σ.length with q | q
        · exact absurd ⟨hi, q⟩ h
        · exact q
      rw [List.getElem?_eq_none (by rw [List.length_set]; exact this), List.getElem?_eq_none this]
    · rw [List.getElem?_set_ne e]
theorem wipe_wipe {σ : L2.St} {vs : List Nat} : wipe (wipe σ vs) vs = wipe σ vs := by
  apply List.ext_getElem?
  intro j
  have e := wipe_get (σ := σ) (j := j) (vs := vs)
  rw [wipe_get, wipe_length]
  by_cases h : j ∈ vs ∧ j < σ.length
  · rw [if_pos h, e, if_pos h]
  · rw [if_neg h]
abbrev WF : WXx := fun _ _ _ _ => False
/-- a target that stores in slots of vs alone -/
def tGO (K : PySem.W.Frag) (g : GM) (vs : List Nat) : TG := fun v sg H Q => ∃ mu Z h s d, SR K mu Z H h ∧ SltR K mu Z s sg ∧ Rep K mu Z d v ∧
  Out K mu Z H (g d s h) (fun _ _ _ => False) fun s' mu' Z' H' _ => ∀ sg', SltR K mu' Z' s' sg' → wipe sg' vs = wipe sg vs → Q sg' H'
def SGO (X : Cx) (tg : Expr) (g : GM) (vs : List Nat) : Prop := PG X tg (tGO X.K g vs)
def tGsO (K : PySem.W.Frag) (gs : List GM) (vs : List Nat) : TGs := fun us sg H Q => ∃ mu Z h s ds, SR K mu Z H h ∧ SltR K mu Z s sg ∧ Reps K mu Z ds us ∧
  Out K mu Z H (gSeq gs ds s h) (fun _ _ _ => False) fun s' mu' Z' H' _ => ∀ sg', SltR K mu' Z' s' sg' → wipe sg' vs = wipe sg vs → Q sg' H'
def SGsO (X : Cx) (es : List Expr) (gs : List GM) (vs : List Nat) : Prop := PGs X es (tGsO X.K gs vs)
section
variable {W : WXx} {X : Cx} {a b c e tg : Expr} {pos : Pos} {vs : List Nat}
theorem sgo_name (i : Nat) {x : Str} (hi : X.N[i]? = some x) (hv : i ∈ vs) (hN : X.N.Nodup) (hx : Loc X.env.scope x := by first | exact .inl rfl | exact .inr rfl) (hf : X.fn x = true ∨ X.env.scope.names.lookup x = some .local := by first | exact .inl rfl | exact .inr rfl) : SGO X (.Name x pos) (gN i) vs :=
  PG.imp (pg_name hN hi hx hf) fun v sg H Q o => by
    obtain ⟨mu, Z, h, s, d, sr, sl, r, o⟩ := o
    exact o mu Z H sr (Stp.refl _ _ _) _ (sl.set i r) (wipe_setin hv)
theorem sgso_nil : SGsO X [] [] vs := PGs.imp pgs_nil fun us sg H Q o => by
  obtain ⟨mu, Z, h, s, ds, sr, sl, r, o⟩ := o
  cases ds with
  | nil =>
    cases r
    exact ⟨rfl, o mu Z H sr (Stp.refl _ _ _) _ sl rfl⟩
  | cons d ds => exact o.elim
theorem sgso_cons {es : List Expr} {g : GM} {gs : List GM} (h1 : SGO X a g vs) (h2 : SGsO X es gs vs) (hs : (assignEach (a :: es) X.env).map (·.2) = assign a X.env :: (assignEach es X.env).map (·.2) := by rfl) : SGsO X (a :: es) (g :: gs) vs :=
  PGs.imp (pgs_cons h1 h2 hs) fun us sg H Q o => by
    obtain ⟨mu, Z, h, s, ds, sr, sl, r, o⟩ := o
    cases ds with
    | nil => exact o.elim
    | cons d ds =>
      cases r with
      | cons r rs =>
        refine ⟨_, _, rfl, mu, Z, h, s, d, sr, sl, r, ?_⟩
        unfold gSeq at o
        cases e : g d s h with
        | ok s1 h1 =>
          simp only [e, Res.bind_ok] at o
          exact fun mu1 Z1 H1 sr1 p1 sg1 sl1 w1 => ⟨mu1, Z1, h1, s1, ds, sr1, sl1, p1.reps rs, Out.mono p1 o fun _ _ _ _ _ _ q sg2 sl2 w2 => q sg2 sl2 (w2.trans w1)⟩
        | ex x h1 =>
          simp only [e, Res.bind_ex] at o
          exact o
        | bad =>
          simp only [e, Res.bind_bad] at o
          exact o.elim
theorem sgo_tup {es : List Expr} {k n : Nat} {gs : List GM} (hc : X.calm = true) (h : SGsO X es gs vs) (hl : gs.length = n) (hn : (assignEach es X.env).length = n := by rfl) (hst : (assignEach es X.env).findIdx? (·.1) = none := by rfl) : SGO X (.Tuple es k pos) (gT gs) vs :=
  PG.imp (pg_tup hc h hn hst) fun v sg H Q o => by
    obtain ⟨mu, Z, h, s, d, sr, sl, r, o⟩ := o
    unfold gT at o
    split at o
    · rename_i xs
      split at o
      · rename_i hx
        cases r with
        | tup q rp _ =>
          exact ⟨_, _, rfl, (sr.zin.tupZ q).sq, by rw [← rp.length, hx, hl], mu, Z, h, s, xs, sr, sl, rp, o⟩
      · exact o.elim
    · exact o.elim
end

/-! ### the tests -/
def tYesM : TM := fun _ h => .ok true h
def STs (W : WXx) (X : Cx) (ifs : List Expr) (f : TM) : Prop := PTs X ifs (tT X.K W f)
section
variable {W : WXx} {X : Cx} {c : Expr} {f : TM}
theorem PTs.imp {ifs : List Expr} {t t' : TT} (h : PTs X ifs t) (hi : ∀ sg H Q, t' sg H Q → t sg H Q) : PTs X ifs t' := ⟨fun pins s σ H Q I q => h.run pins s σ H Q I (hi _ _ _ q)⟩
theorem sts_nil : STs W X [] tYesM := PTs.imp pts_nil fun sg H Q o => by
  obtain ⟨mu, Z, h, s, sr, sl, o⟩ := o
  exact o mu Z H sr (Stp.refl _ _ _)
theorem sts_one (h : ST W X c f) : STs W X [c] f := pts_one h
end

/-! ### the comprehension -/
/-- what must not raise -/
def bnd {α β : Type} (r : Res α) (k : α → Hh → Res β) : Res β := match r with
  | .ok a h => k a h
  | _ => .bad
open Classical in
noncomputable def lcL (g : GM) (ft : TM) (fe : EM) (own : List Nat) (lk : Lk) (s : Sl) : List D → List D → Hh → Res (List D)
  | [], acc, h => if lockOk lk h then .ok acc h else .bad
  | x :: xs, acc, h => if lockOk lk h then bnd (g x (wip s own) h) fun s1 h1 => bnd (ft s1 h1) fun b h2 => if b = true then bnd (fe s1 h2) fun v h3 => lcL g ft fe own lk s xs (acc ++ [v]) h3 else lcL g ft fe own lk s xs acc h2 else .bad
noncomputable def mLc (hp : Bool) (im : IM) (g : GM) (ft : TM) (fe : EM) (own : List Nat) : EM := fun s h => (im s h).bind fun p h1 => (lcL g ft fe own p.2 s p.1 [] h1).bind fun xs h2 => mkL hp xs h2
section
variable {K : PySem.W.Frag} {mu mu' mu1 : List Addr} {Z Z' Z1 H H' H1 : Hp} {h h' : Hh} {D : Addr} {o : HO}
theorem SR.updF (sr : SR K mu Z H h) (hm : D ∉ mu) (hz : Z D = none) (hD : NTb H D) (o : HO) : SR K mu Z (upd H D o) h := by
  refine ⟨fun a q e => ?_, sr.len, sr.nd, sr.sep, fun n ob a e1 e2 => ?_, sr.tb.upd hD sr.tb.z o⟩
  · rw [upd_ne (ne_of_none e hz)]; exact sr.zin a q e
  · exact (sr.cell n ob a e1 e2).mono (fun _ _ z => z) (Sub.refl _) fun q e => by
      rw [upd_ne fun z => hm (by rw [← z]; exact List.mem_of_getElem? e2)]; exact e
theorem Stp.updF (p : Stp mu1 Z1 H1 mu Z H) (hn : H1 D = none) (o : HO) : Stp mu1 Z1 H1 mu Z (upd H D o) where
  pre := p.pre
  zm := p.zm
  fr := fun a q e hm ht => by rw [upd_ne (ne_of_none e hn)]; exact p.fr a q e hm ht
  nm := p.nm
  nz := p.nz
  al := fun a q e => by rw [upd_ne (ne_of_none e hn)]; exact p.al a q e
theorem Stp.keepD (p : Stp mu Z H mu' Z' H') (hm : D ∉ mu) (hz : Z D = none) (hd : H D = some o) (ho : ∀ ps, o ≠ .tbl ps := by intro _ z; cases z) : D ∉ mu' ∧ Z' D = none ∧ H' D = some o := by
  refine ⟨fun q => ?_, ?_, p.fr D o hd hm ho⟩
  · rcases p.nm D q with z | z
    · exact hm z
    · rw [hd] at z; cases z
  · cases q : Z' D with
    | none => rfl
    | some x =>
      rcases p.nz D x q with z | z
      · rw [hz] at z; cases z
      · rw [hd] at z; cases z
/-- the untracked list becomes a result -/
theorem SR.mkLout {b : Bool} {xs : List TB.D} {vs : List V} {W : Value → Option Addr → Hp → Prop} {Q : VK} (sr : SR K mu Z H h) (p : Stp mu1 Z1 H1 mu Z H) (hm : D ∉ mu) (hz : Z D = none) (hd : H D = some (.lst vs)) (rp : Reps K mu Z xs vs) (hl : xs.length ≤ sizeLine)
    (hn : H1 D = none) (o : Out K mu1 Z1 H1 (mkL b xs h) W fun v mu' Z' H' _ => ∀ u, Rep K mu' Z' v u → Q u H') : Q (.ref D) H := by
  cases b with
  | false =>
    have hz' : Sub Z (upd Z D (.lst vs)) := fun a q e => by rw [upd_ne (ne_of_none e hz)]; exact e
    have q1 : SR K mu (upd Z D (.lst vs)) H h := by
      refine ⟨fun a q e => ?_, sr.len, sr.nd, fun a ha => ?_, fun n ob a e1 e2 => ?_, sr.tb.re (ztb_upd sr.tb.z fun _ z => by cases z)⟩
      · by_cases ha : a = D
        · subst ha; rw [upd_same] at e; cases e; exact hd
        · rw [upd_ne ha] at e; exact sr.zin a q e
      · rw [upd_ne fun z => hm (by rw [← z]; exact ha)]; exact sr.sep a ha
      · exact (sr.cell n ob a e1 e2).mono (fun _ _ z => z) hz' fun q e => e
    have q2 : Stp mu1 Z1 H1 mu (upd Z D (.lst vs)) H := by
      refine ⟨p.pre, p.zm.trans hz', p.fr, p.nm, fun a q e => ?_, p.al⟩
      by_cases ha : a = D
      · subst ha; exact .inr hn
      · rw [upd_ne ha] at e; exact p.nz a q e
    exact o _ _ _ q1 q2 _ (.lst upd_same (rp.mono (fun _ _ z => z) hz') hl)
  | true =>
    have pg := pre_get (mu := mu) (mu' := mu ++ [D]) ⟨[D], rfl⟩
    have q1 : SR K (mu ++ [D]) Z H (h ++ [.lst xs]) := by
      refine ⟨sr.zin, by simp [sr.len], ?_, fun a ha => ?_, fun n ob a e1 e2 => ?_, sr.tb⟩
      · rw [List.nodup_append]
        refine ⟨sr.nd, by simp, fun a ha b hb e => ?_⟩
        simp at hb; subst hb; subst e; exact hm ha
      · simp at ha
        rcases ha with ha | ha
        · exact sr.sep a ha
        · rw [ha]; exact hz
      · by_cases hn' : n < h.length
        · rw [List.getElem?_append_left hn'] at e1
          rw [List.getElem?_append_left (by rw [sr.len]; exact hn')] at e2
          exact (sr.cell n ob a e1 e2).mono pg (Sub.refl _) fun q e => e
        · have : n = h.length := by
            have := (List.getElem?_eq_some_iff.mp e1).1
            simp at this; omega
          subst this
          rw [List.getElem?_append_right (Nat.le_refl _)] at e1
          simp at e1; subst e1
          rw [← sr.len, List.getElem?_append_right (Nat.le_refl _)] at e2
          simp at e2; subst e2
          exact ⟨hl, vs, hd, rp.mono pg (Sub.refl _)⟩
    have q2 : Stp mu1 Z1 H1 (mu ++ [D]) Z H := by
      obtain ⟨nu, e⟩ := p.pre
      refine ⟨⟨nu ++ [D], by rw [e, List.append_assoc]⟩, p.zm, p.fr, fun a ha => ?_, p.nz, p.al⟩
      simp at ha
      rcases ha with ha | ha
      · exact p.nm a ha
      · rw [ha]; exact .inr hn
    exact o _ _ _ q1 q2 _ (.ref (by rw [← sr.len]; simp))
end
section
variable {W : WXx} {X : Cx} {elt tg iter : Expr} {ifs : List Expr} {scope : Scope} {own : List (Str × Nat)} {pos : Pos} {im : IM} {g : GM} {ft : TM} {fe : EM}
theorem lc_step {hp : Bool} {K : PySem.W.Frag} {vs : List Nat} {sg : L2.St} {H : Hp} {Q : VK} (o : tE K W (mLc hp im g ft fe vs) sg H Q) : tLc (tI K W im) (tGO K g vs) (tT K WF ft) (tE K WF fe) vs sg H Q := by
  obtain ⟨mu, Z, h, s, sr, sl, _, o⟩ := o
  refine ⟨mu, Z, h, s, sr, sl, ?_⟩
  unfold mLc at o
  cases ei : im s h with
  | ex x h1 =>
    simp only [ei, Res.bind_ex] at o
    exact o
  | bad =>
    simp only [ei, Res.bind_bad] at o
    exact o.elim
  | ok p h1 =>
    simp only [ei, Res.bind_ok] at o
    intro mu1 Z1 H1 sr1 p1 J wk D hD
    have o1 := Out.mono p1 o fun _ _ _ _ _ _ q => q
    obtain ⟨f1, f2⟩ := sr1.fresh hD
    refine ⟨fun i m H => i ≤ p.1.length ∧ m = p.1.length - i ∧ ∃ mu Z h acc us, SR K mu Z H h ∧ Stp mu1 Z1 H1 mu Z H ∧ D ∉ mu ∧ Z D = none ∧ H D = some (.lst us) ∧ Reps K mu Z acc us ∧ acc.length ≤ i ∧
      Out K mu1 Z1 H1 ((lcL g ft fe vs p.2 s (p.1.drop i) acc h).bind fun xs h2 => mkL hp xs h2) (fun c d H' => W c d sg H') fun v mu' Z' H' _ => ∀ u, Rep K mu' Z' v u → Q u H', ⟨p.1.length, Nat.zero_le _, by simp, mu1, Z1, h1, [], [], sr1.updF f1 f2 (.non hD) _, (Stp.refl _ _ _).updF hD _, f1, f2, upd_same, .nil, Nat.le_refl _, o1⟩, ?_⟩
    rintro i m H2 ⟨hi, rfl, mu2, Z2, h2, acc, us, sr2, p2, d1, d2, d3, rp, hl, o2⟩
    by_cases hlt : i < p.1.length
    · right
      have ed : p.1.drop i = p.1[i] :: p.1.drop (i + 1) := List.drop_eq_getElem_cons hlt
      rw [ed] at o2
      simp only [lcL] at o2
      by_cases hlk : lockOk p.2 h2
      · rw [if_pos hlk] at o2
        refine ⟨wk.go mu2 Z2 H2 h2 i sr2 p2.pre p2.zm hlk hlt, fun H => ∃ mu Z h acc us, SR K mu Z H h ∧ Stp mu1 Z1 H1 mu Z H ∧ D ∉ mu ∧ Z D = none ∧ H D = some (.lst us) ∧ Reps K mu Z acc us ∧ acc.length ≤ i + 1 ∧
          Out K mu1 Z1 H1 ((lcL g ft fe vs p.2 s (p.1.drop (i + 1)) acc h).bind fun xs h2 => mkL hp xs h2) (fun c d H' => W c d sg H') fun v mu' Z' H' _ => ∀ u, Rep K mu' Z' v u → Q u H', fun H' q => ⟨p.1.length - (i + 1), by omega, hlt, rfl, q⟩, fun x H3 y => ?_⟩
        obtain ⟨Z3, sr3, p3, d, ed3, r3⟩ := wk.yl mu2 Z2 H2 h2 i x H3 sr2 p2.pre p2.zm hlk hlt y
        rw [List.getElem?_eq_getElem hlt] at ed3
        cases ed3
        obtain ⟨d1, d2, d3⟩ := p3.keepD d1 d2 d3
        have p13 := p2.trans p3
        have rp := p3.reps rp
        have sl3 := ((sl.mono p1).mono p13).wip vs
        refine ⟨mu2, Z3, h2, wip s vs, p.1[i], sr3, sl3, r3, ?_⟩
        cases eg : g p.1[i] (wip s vs) h2 with
        | ex x h1 =>
          simp only [eg, bnd, Res.bind_bad] at o2
          exact o2.elim
        | bad =>
          simp only [eg, bnd, Res.bind_bad] at o2
          exact o2.elim
        | ok s4 h4 =>
          simp only [eg, bnd] at o2
          intro mu4 Z4 H4 sr4 p4 sg4 sl4 w4
          obtain ⟨d1, d2, d3⟩ := p4.keepD d1 d2 d3
          have p14 := p13.trans p4
          have rp := p4.reps rp
          refine ⟨w4.trans wipe_wipe, mu4, Z4, h4, s4, sr4, sl4, ?_⟩
          cases et : ft s4 h4 with
          | ex x h1 =>
            simp only [et, Res.bind_bad] at o2
            exact o2.elim
          | bad =>
            simp only [et, Res.bind_bad] at o2
            exact o2.elim
          | ok b h5 =>
            simp only [et] at o2
            intro mu5 Z5 H5 sr5 p5
            obtain ⟨d1, d2, d3⟩ := p5.keepD d1 d2 d3
            have p15 := p14.trans p5
            have rp := p5.reps rp
            cases b with
            | false =>
              rw [if_neg Bool.false_ne_true] at o2 ⊢
              exact ⟨mu5, Z5, h5, acc, us, sr5, p15, d1, d2, d3, rp, by omega, o2⟩
            | true =>
              rw [if_pos rfl] at o2 ⊢
              refine ⟨mu5, Z5, h5, s4, sr5, sl4.mono p5, .nil, ?_⟩
              cases ee : fe s4 h5 with
              | ex x h1 =>
                simp only [ee, Res.bind_bad] at o2
                exact o2.elim
              | bad =>
                simp only [ee, Res.bind_bad] at o2
                exact o2.elim
              | ok v h6 =>
                simp only [ee] at o2
                intro mu6 Z6 H6 sr6 p6 u ru
                obtain ⟨d1, d2, d3⟩ := p6.keepD d1 d2 d3
                have p16 := p15.trans p6
                have rp := p6.reps rp
                refine ⟨us, d3, ?_, mu6, Z6, h6, acc ++ [v], us ++ [u], sr6.updF d1 d2 (.som d3) _, p16.updF hD _, d1, d2, upd_same, rp.append (.cons ru .nil), by simp; omega, o2⟩
                have := rp.length
                have := wk.len
                omega
      · rw [if_neg hlk] at o2
        exact o2.elim
    · left
      have hi2 : i = p.1.length := by omega
      subst hi2
      rw [List.drop_length] at o2
      simp only [lcL] at o2
      by_cases hlk : lockOk p.2 h2
      · rw [if_pos hlk] at o2
        refine ⟨wk.st mu2 Z2 H2 h2 sr2 p2.pre p2.zm hlk, ?_⟩
        exact sr2.mkLout p2 d1 d2 d3 rp (Nat.le_trans hl wk.len) hD o2
      · rw [if_neg hlk] at o2
        exact o2.elim
theorem se_lc (hp : Bool) (hc : X.calm = true) (hN : X.N.Nodup) (hi : SI W X tg iter im) (ok : BlkOk X.N X.env.scope scope own)
    (hg : ∀ (s : Shared) (H : Hp) (C : Addr) (cl : List (Str × Addr)) (fp : List Addr), SGO (X.blk s H scope (compEnvC scope cl C X.env) fp) tg g (own.map (·.2)))
    (ht : ∀ (s : Shared) (H : Hp) (C : Addr) (cl : List (Str × Addr)) (fp : List Addr), STs WF (X.blk s H scope (compEnvC scope cl C X.env) fp) ifs ft)
    (he : ∀ (s : Shared) (H : Hp) (C : Addr) (cl : List (Str × Addr)) (fp : List Addr), SE WF (X.blk s H scope (compEnvC scope cl C X.env) fp) elt fe) (hs : ∀ x, foldedSetIterable iter X.env x = pure x := by intro _; rfl) :
    SE W X (.ListComp elt [⟨tg, iter, ifs, 0⟩] scope pos) (mLc hp im g ft fe (own.map (·.2))) :=
  PE.imp (pe_lc (g := tGO X.K g (own.map fun p : Str × Nat => p.2)) (tt := tT X.K WF ft) (te := tE X.K WF fe) hc hN hi ok hg ht he hs) fun sg H Q o => lc_step o
theorem ss_setLc (hp : Bool) {i : Nat} {y : Str} {py spos : Pos} (hc : X.calm = true) (hN : X.N.Nodup) (hy : X.N[i]? = some y) (hyl : X.env.scope.names.lookup y = some .local)
    (hsw : swapsWith (.ListComp elt [⟨tg, iter, ifs, 0⟩] scope pos) (some (.Name y py)) spos.line X.env = pure true) (hi : SI W X tg iter im) (ok : BlkOk X.N X.env.scope scope own)
    (hg : ∀ (s : Shared) (H : Hp) (C : Addr) (cl : List (Str × Addr)) (fp : List Addr), SGO (X.blk s H scope (compEnvC scope cl C X.env) fp) tg g (own.map (·.2)))
    (ht : ∀ (s : Shared) (H : Hp) (C : Addr) (cl : List (Str × Addr)) (fp : List Addr), STs WF (X.blk s H scope (compEnvC scope cl C X.env) fp) ifs ft)
    (he : ∀ (s : Shared) (H : Hp) (C : Addr) (cl : List (Str × Addr)) (fp : List Addr), SE WF (X.blk s H scope (compEnvC scope cl C X.env) fp) elt fe) (hs : ∀ x, foldedSetIterable iter X.env x = pure x := by intro _; rfl) :
    SS W X (.Assign [.Name y py] (.ListComp elt [⟨tg, iter, ifs, 0⟩] scope pos) spos) (sAsg (mLc hp im g ft fe (own.map (·.2))) (gN i)) :=
  PS.imp (ps_setLc (g := tGO X.K g (own.map fun p : Str × Nat => p.2)) (tt := tT X.K WF ft) (te := tE X.K WF fe) hc hN hy hyl hsw hi ok hg ht he hs) fun Dn sg H o => by
    refine lc_step (W := W) (hp := hp) (im := im) (g := g) (ft := ft) (fe := fe) ?_
    refine tA.mono (tSv.seqE (k := fun v s h1 => stE (gN i v s h1) s fun s1 h2 => .ok (.nx s1) h2) o) fun u H1 ⟨v, q⟩ => ?_
    obtain ⟨mu, Z, h, s, sr, sl, rp, o⟩ := q
    cases rp with
    | cons r _ => exact o mu Z H1 sr (Stp.refl _ _ _) _ (sl.set i r)
end
end TB
end

section
set_option Elab.async false
set_option linter.all false
set_option maxRecDepth 100000
set_option autoImplicit false
set_option maxHeartbeats 1000000
/-! TB12: defs: what a def gives, as a function of values and cells. -/
namespace TB
open PySem PySem.Spec PyProof.Rows L2
variable [LC] [LT]

mutual
/-- no reference to a cell at k or behind -/
def low (k : Nat) : D → Bool
  | .ref n => decide (n < k)
  | .tup xs => lows k xs
  | .lst xs => lows k xs
  | .dic kvs => lowk k kvs
  | .dit kts => lowt k kts
  | .ins _ fs => lowf k fs
  | .exn _ _ => false
  | .non => true
  | .bl _ => true
  | .int _ => true
  | .str _ => true
  | .fn _ => true
  | .ty _ => true
  | .scr _ => true
def lows (k : Nat) : List D → Bool
  | [] => true
  | x :: r => low k x && lows k r
def lowk (k : Nat) : List (Key × D) → Bool
  | [] => true
  | (_, x) :: r => low k x && lowk k r
def lowf (k : Nat) : List (Str × D) → Bool
  | [] => true
  | (_, x) :: r => low k x && lowf k r
def lowt (k : Nat) : List (D × D) → Bool
  | [] => true
  | (x, y) :: r => low k x && (low k y && lowt k r)
end
theorem lowt_eq (k : Nat) : ∀ l : List (D × D), lowt k l = true → lows k (l.map (·.1)) = true ∧ lows k (l.map (·.2)) = true
  | [], _ => ⟨rfl, rfl⟩
  | (x, y) :: r, h => by
    simp only [lowt, Bool.and_eq_true] at h
    obtain ⟨h1, h2⟩ := lowt_eq k r h.2.2
    simp [lows, h.1, h.2.1, h1, h2]
theorem lowk_eq (k : Nat) : ∀ l : List (Key × D), lowk k l = lows k (l.map (·.2))
  | [] => rfl
  | (_, x) :: r => by simp [lowk, lows, lowk_eq k r]
theorem lowf_eq (k : Nat) : ∀ l : List (Str × D), lowf k l = lows k (l.map (·.2))
  | [] => rfl
  | (_, x) :: r => by simp [lowf, lows, lowf_eq k r]
theorem lows_all (k : Nat) : ∀ l : List D, lows k l = l.all (low k)
  | [] => rfl
  | x :: r => by simp [lows, lows_all k r]
section
variable {K : PySem.W.Frag} {mu mu' : List Addr} {Z Z' : Hp} {k : Nat}
mutual
theorem Rep.low (hm : ∀ (n : Nat) (a : Addr), n < k → mu[n]? = some a → mu'[n]? = some a) (hz : Sub Z Z') : ∀ {d : D} {v : V}, Rep K mu Z d v → TB.low k d = true → Rep K mu' Z' d v
  | _, _, .non, _ => .non
  | _, _, .bl b, _ => .bl b
  | _, _, .int i, _ => .int i
  | _, _, .str h, _ => .str h
  | _, _, .tup h r l, e => .tup (hz.tupZ h) (Reps.low hm hz r (by simpa [TB.low] using e)) l
  | _, _, .scr h l, _ => .scr (hz.sqL h) l
  | _, _, .lst h r l, e => .lst (hz _ _ h) (Reps.low hm hz r (by simpa [TB.low] using e)) l
  | _, _, .dic h e k r, q => .dic (hz _ _ h) e k (Reps.low hm hz r (by simpa [TB.low, lowk_eq] using q))
  | _, _, .dit h e l r1 r2, q => .dit (hz _ _ h) e l (Reps.low hm hz r1 (lowt_eq k _ (by simpa [TB.low] using q)).1) (Reps.low hm hz r2 (lowt_eq k _ (by simpa [TB.low] using q)).2)
  | _, _, .exn _ _ _, q => by simp [TB.low] at q
  | _, _, .ins h h2 e r, q => .ins (hz _ _ h) (hz _ _ h2) e (Reps.low hm hz r (by simpa [TB.low, lowf_eq] using q))
  | _, _, .fn a, _ => .fn a
  | _, _, .ty n, _ => .ty n
  | _, _, .ref h, e => .ref (hm _ _ (by simpa [TB.low] using e) h)
theorem Reps.low (hm : ∀ (n : Nat) (a : Addr), n < k → mu[n]? = some a → mu'[n]? = some a) (hz : Sub Z Z') : ∀ {ds : List D} {vs : List V}, Reps K mu Z ds vs → lows k ds = true → Reps K mu' Z' ds vs
  | _, _, .nil, _ => .nil
  | _, _, .cons r rs, e => by
    simp only [lows, Bool.and_eq_true] at e
    exact .cons (Rep.low hm hz r e.1) (Reps.low hm hz rs e.2)
end
end
def obLow (k : Nat) : Ob → Bool
  | .lst xs => lows k xs
  | .dic kvs => lowk k kvs
  | .dit kts => lowt k kts
  | .ins _ fs => lowf k fs
theorem ObRep.low {K : PySem.W.Frag} {mu mu' : List Addr} {Z Z' H H' : Hp} {a : Addr} {ob : Ob} {k : Nat} (hm : ∀ (n : Nat) (a : Addr), n < k → mu[n]? = some a → mu'[n]? = some a) (hz : Sub Z Z') (he : ∀ o, H a = some o → H' a = some o) (r : ObRep K mu Z H a ob) (e : obLow k ob = true) : ObRep K mu' Z' H' a ob := by
  cases ob with
  | lst xs => obtain ⟨l, vs, e1, q⟩ := r; exact ⟨l, vs, he _ e1, q.low hm hz e⟩
  | dic xs => obtain ⟨vs, e1, e2, k, q⟩ := r; exact ⟨vs, he _ e1, e2, k, q.low hm hz (by rw [← lowk_eq]; exact e)⟩
  | dit xs => obtain ⟨vs, e1, e2, k, q, q2⟩ := r; exact ⟨vs, he _ e1, e2, k, q.low hm hz (lowt_eq _ _ e).1, q2.low hm hz (lowt_eq _ _ e).2⟩
  | ins C fs => obtain ⟨dx, gs, e1, e2, q⟩ := r; exact ⟨dx, gs, he _ e1, e2, q.low hm hz (by rw [← lowf_eq]; exact e)⟩
mutual
/-- a result as it stays when the cells from k on are given up: lists among them change no more -/
def frzD (k : Nat) (h : Hh) : D → Option D
  | .ref n => if n < k then some (.ref n) else match h[n]? with
    | some (.lst xs) => if lows k xs = true then some (.lst xs) else none
    | _ => none
  | .tup xs => match frzDs k h xs with
    | some ys => some (.tup ys)
    | none => none
  | .lst xs => if lows k xs = true then some (.lst xs) else none
  | .dic kvs => if lowk k kvs = true then some (.dic kvs) else none
  | .dit kts => if lowt k kts = true then some (.dit kts) else none
  | .ins C fs => if lowf k fs = true then some (.ins C fs) else none
  | .exn _ _ => none
  | .non => some .non
  | .bl b => some (.bl b)
  | .int i => some (.int i)
  | .str x => some (.str x)
  | .fn a => some (.fn a)
  | .ty n => some (.ty n)
  | .scr n => some (.scr n)
def frzDs (k : Nat) (h : Hh) : List D → Option (List D)
  | [] => some []
  | x :: r => match frzD k h x, frzDs k h r with
    | some y, some s => some (y :: s)
    | _, _ => none
end
/-- the cells from k on are given up -/
def zcut (k : Nat) (mu : List Addr) (Z H : Hp) : Hp := fun a => if a ∈ mu.drop k then H a else Z a
section
variable {K : PySem.W.Frag} {mu mu' : List Addr} {Z Z1 H H1 : Hp} {h h1 : Hh} {k : Nat}
theorem zcut_sub (sr : SR K mu Z H h) : Sub Z (zcut k mu Z H) := fun a o e => by
  unfold zcut
  split
  · rename_i hm
    have := sr.sep a (List.mem_of_mem_drop hm)
    rw [e] at this; cases this
  · exact e
theorem take_get {mu : List Addr} {k : Nat} : ∀ (n : Nat) (a : Addr), n < k → mu[n]? = some a → (mu.take k)[n]? = some a := fun n a hn e => by rw [List.getElem?_take_of_lt hn]; exact e
mutual
theorem frz_rep (sr : SR K mu Z H h) : ∀ {d d' : D} {v : V}, Rep K mu Z d v → frzD k h d = some d' → Rep K (mu.take k) (zcut k mu Z H) d' v
  | .ref n, d', _, .ref (a := a) e, q => by
    unfold frzD at q
    split at q
    · rename_i hn
      cases q
      exact .ref (take_get n _ hn e)
    · rename_i hn
      split at q
      · rename_i xs hx
        split at q
        · rename_i hl
          cases q
          obtain ⟨l, vs, e1, rp⟩ := sr.cell n _ a hx e
          refine .lst (vs := vs) ?_ (rp.low take_get (zcut_sub sr) hl) l
          unfold zcut
          rw [if_pos]
          · exact e1
          · rw [List.mem_iff_getElem?]
            exact ⟨n - k, by rw [List.getElem?_drop]; rw [show k + (n - k) = n by omega]; exact e⟩
        · cases q
      · cases q
  | .tup xs, d', _, .tup h1 r l, q => by
    unfold frzD at q
    split at q
    · rename_i ys hy
      cases q
      have r2 := frzs_rep sr r hy
      refine .tup ((zcut_sub sr).tupZ h1) r2 ?_
      rw [r2.length, ← r.length]; exact l
    · cases q
  | .lst xs, d', _, .lst h1 r l, q => by
    unfold frzD at q
    split at q
    · rename_i hl
      cases q
      exact .lst (zcut_sub sr _ _ h1) (r.low take_get (zcut_sub sr) hl) l
    · cases q
  | .dic xs, d', _, .dic h1 e ok r, q => by
    unfold frzD at q
    split at q
    · rename_i hl
      cases q
      exact .dic (zcut_sub sr _ _ h1) e ok (r.low take_get (zcut_sub sr) (by rw [← lowk_eq]; exact hl))
    · cases q
  | .dit xs, d', _, .dit h1 e l r1 r2, q => by
    unfold frzD at q
    split at q
    · rename_i hl
      cases q
      exact .dit (zcut_sub sr _ _ h1) e l (r1.low take_get (zcut_sub sr) (lowt_eq _ _ hl).1) (r2.low take_get (zcut_sub sr) (lowt_eq _ _ hl).2)
    · cases q
  | .exn _ _, d', _, .exn _ _ _, q => by unfold frzD at q; cases q
  | .ins C fs, d', _, .ins h1 h2 e r, q => by
    unfold frzD at q
    split at q
    · rename_i hl
      cases q
      exact .ins (zcut_sub sr _ _ h1) (zcut_sub sr _ _ h2) e (r.low take_get (zcut_sub sr) (by rw [← lowf_eq]; exact hl))
    · cases q
  | .non, _, _, .non, q => by unfold frzD at q; cases q; exact .non
  | .bl b, _, _, .bl _, q => by unfold frzD at q; cases q; exact .bl _
  | .int b, _, _, .int _, q => by unfold frzD at q; cases q; exact .int _
  | .str b, _, _, .str z, q => by unfold frzD at q; cases q; exact .str z
  | .fn b, _, _, .fn _, q => by unfold frzD at q; cases q; exact .fn _
  | .ty b, _, _, .ty _, q => by unfold frzD at q; cases q; exact .ty _
  | .scr b, _, _, .scr z l, q => by unfold frzD at q; cases q; exact .scr ((zcut_sub sr).sqL z) l
theorem frzs_rep (sr : SR K mu Z H h) : ∀ {ds ds' : List D} {vs : List V}, Reps K mu Z ds vs → frzDs k h ds = some ds' → Reps K (mu.take k) (zcut k mu Z H) ds' vs
  | [], _, _, .nil, q => by unfold frzDs at q; cases q; exact .nil
  | x :: xs, _, _, .cons r rs, q => by
    unfold frzDs at q
    split at q
    · rename_i y s e1 e2
      cases q
      exact .cons (frz_rep sr r e1) (frzs_rep sr rs e2)
    · cases q
end
theorem SR.cut (sr : SR K mu Z H h) (hl : (h.take k).all (obLow k) = true) : SR K (mu.take k) (zcut k mu Z H) H (h.take k) := by
  refine ⟨fun a o e => ?_, by simp [sr.len], sr.nd.sublist (List.take_sublist _ _), fun a ha => ?_, fun n ob a e1 e2 => ?_, sr.tb.re fun a ps e => ?_⟩
  · unfold zcut at e
    split at e
    · exact e
    · exact sr.zin a o e
  · unfold zcut
    have nd := sr.nd
    rw [← List.take_append_drop k mu, List.nodup_append] at nd
    rw [if_neg fun hd => nd.2.2 a ha a hd rfl]
    exact sr.sep a (List.mem_of_mem_take ha)
  · have hn : n < k := by
      have := (List.getElem?_eq_some_iff.mp e1).1
      rw [List.length_take] at this
      omega
    have hlow : obLow k ob = true := List.all_eq_true.mp hl ob (List.mem_of_getElem? e1)
    rw [List.getElem?_take_of_lt hn] at e1 e2
    exact (sr.cell n ob a e1 e2).low take_get (zcut_sub sr) (fun _ z => z) hlow
  · unfold zcut at e
    split at e
    · rename_i hd
      exact (sr.ntb (List.mem_of_mem_drop hd) _ e).1 ps rfl
    · exact sr.tb.z a ps e
theorem Stp.cut (p : Stp mu Z H mu' Z1 H1) (sr : SR K mu' Z1 H1 h1) (hk : mu.length = k) : mu'.take k = mu ∧ Stp mu Z H mu (zcut k mu' Z1 H1) H1 := by
  obtain ⟨nu, e⟩ := p.pre
  have et : mu'.take k = mu := by rw [e, ← hk, List.take_left]
  refine ⟨et, ⟨[], by simp⟩, p.zm.trans (zcut_sub sr), p.fr, fun a h => .inl h, fun a o q => ?_, p.al⟩
  unfold zcut at q
  split at q
  · rename_i hd
    rcases p.nm a (List.mem_of_mem_drop hd) with z | z
    · exfalso
      have nd := sr.nd
      rw [← List.take_append_drop k mu', List.nodup_append] at nd
      exact nd.2.2 a (by rw [et]; exact z) a hd rfl
    · exact .inr z
  · exact p.nz a o q
end

/-! ### a def -/
def startD (n : Nat) (ds : List D) : Sl := ds.map some ++ List.replicate (n - ds.length) none
/-- the end of a def -/
def fin (keep : Bool) (k : Nat) (v : D) (h : Hh) : Res D :=
  if keep = true then .ok v h else if (h.take k).all (obLow k) = true then (match frzD k h v with
    | some v' => .ok v' (h.take k)
    | none => .bad) else .bad
abbrev FM := List D → Hh → Res D
/-- a def of n names by its body -/
def callF (keep : Bool) (sm : SM) (n : Nat) : FM := fun ds h => match sm (startD n ds) h with
  | .ok (.rt v) h1 => fin keep h.length v h1
  | .ok (.nx _) h1 => fin keep h.length .non h1
  | _ => .bad
def spF (K : PySem.W.Frag) (n : Nat) (F : FM) : Sp := fun vs H Q _ => vs.length = n ∧ ∃ mu Z h ds, SR K mu Z H h ∧ Reps K mu Z ds vs ∧
  Out K mu Z H (F ds h) (fun _ _ _ => False) fun v mu' Z' H' _ => ∀ u, Rep K mu' Z' v u → Q u H'
theorem sltR_start {K : PySem.W.Frag} {mu : List Addr} {Z : Hp} {ds : List D} {vs : List V} (N : List Str) (r : Reps K mu Z ds vs) : SltR K mu Z (startD N.length ds) (start N vs) := by
  have hl := r.length
  refine ⟨by simp [startD, L2.start, hl], fun i d e => ?_⟩
  unfold startD at e
  by_cases hi : i < ds.length
  · rw [List.getElem?_append_left (by simpa using hi), List.getElem?_map] at e
    cases q : ds[i]? with
    | none => rw [q] at e; cases e
    | some x =>
      rw [q] at e
      cases e
      obtain ⟨v, e1, r1⟩ := r.get q
      refine ⟨v, ?_, r1⟩
      unfold L2.start
      rw [List.getElem?_append_left (by rw [List.length_map, ← hl]; exact hi), List.getElem?_map, e1] <;> rfl
  · rw [List.getElem?_append_right (by simpa using hi), List.getElem?_replicate] at e
    split at e <;> cases e
theorem fin_ok {K : PySem.W.Frag} {mu mu1 : List Addr} {Z H Z1 H1 : Hp} {h h1 : Hh} {keep : Bool} {v : D} {u : V} {Q : VK} (sr : SR K mu Z H h) (sr1 : SR K mu1 Z1 H1 h1) (p1 : Stp mu Z H mu1 Z1 H1) (r : Rep K mu1 Z1 v u)
    (o : Out K mu Z H (fin keep h.length v h1) (fun _ _ _ => False) fun v mu' Z' H' _ => ∀ u, Rep K mu' Z' v u → Q u H') : Q u H1 := by
  unfold fin at o
  split at o
  · exact o mu1 Z1 H1 sr1 p1 u r
  · split at o
    · rename_i hl
      split at o
      · rename_i v' ev
        have hk : mu.length = h.length := sr.len
        obtain ⟨et, p2⟩ := p1.cut sr1 hk
        have c := sr1.cut hl
        rw [et] at c
        have r2 := frz_rep sr1 r ev
        rw [et] at r2
        exact o mu _ H1 c p2 u r2
      · exact o.elim
    · exact o.elim
theorem fn_ok {P : Program} {w : World} {K : PySem.W.Frag} {mg : Str → Option Value} {base : Heap} {x qual : Str} {st : Stmt} {f : Addr} {fd : FuncData} {N ps : List Str} {k : Nat} {keep : Bool} {sm : SM} (F : Fun K x qual st f fd) (S : FnScope N ps (defScope st))
    (hb : ∀ (cdv : Value) (A : Around) (outer : List Env) (s : Shared) (H : Hp) (E : XK), Room k (A.deeper (envOfC qual (defScope st) s.heap.objs.size f cdv)) → SSs WF (cxOf CX0 P w K mg base N qual (defScope st) f cdv A outer s H E).nox (defBody st) sm) :
    FnOk P w K mg base CX0 (k + 1) f fd ps (spF K ps.length (callF keep sm N.length)) := by
  refine F.ok S (fun vs H Q E h => h.1) (fun cdv A outer s H vs Q E hr h => ⟨_, hb cdv A outer s H E hr, ?_⟩)
  obtain ⟨_, mu, Z, h, ds, sr, rp, o⟩ := h
  refine ⟨mu, Z, h, startD N.length ds, sr, sltR_start N rp, .nil, ?_⟩
  unfold callF at o
  cases e : sm (startD N.length ds) h with
  | ok fl h1 =>
    cases fl with
    | rt v =>
      simp only [e] at o
      exact fun mu1 Z1 H1 sr1 p1 u ru => fin_ok sr sr1 p1 ru o
    | nx s1 =>
      simp only [e] at o
      exact fun mu1 Z1 H1 sr1 p1 sg _ => fin_ok sr sr1 p1 .non o
    | bk s1 => simp only [e] at o; exact o.elim
    | ct s1 => simp only [e] at o; exact o.elim
    | rs x s1 => simp only [e] at o; exact o.elim
  | ex x h1 => simp only [e] at o; exact o.elim
  | bad => simp only [e] at o; exact o.elim
end TB
end

section
set_option Elab.async false
set_option linter.all false
set_option maxRecDepth 100000
set_option autoImplicit false
set_option maxHeartbeats 1000000
/-! TB13: calls of defs: a callee sees just the cells that it is handed. -/
namespace TB
open PySem PySem.Spec PyProof.Rows L2
variable [LC] [LT]

def refsOf : List D → List Nat
  | [] => []
  | d :: r => match d with
    | .ref n => n :: refsOf r
    | _ => refsOf r
def renD : Nat → List D → List D
  | _, [] => []
  | i, d :: r => match d with
    | .ref _ => .ref i :: renD (i + 1) r
    | d => d :: renD i r
def argLow : List D → Bool
  | [] => true
  | d :: r => match d with
    | .ref _ => argLow r
    | d => low 0 d && argLow r
def getC (h : Hh) : List Nat → Option Hh
  | [] => some []
  | n :: r => match h[n]?, getC h r with
    | some c, some s => some (c :: s)
    | _, _ => none
def putC (h : Hh) : List Nat → Hh → Hh
  | n :: r, c :: s => (putC h r s).set n c
  | _, _ => h
def outC (L k : Nat) (v : D) (h : Hh) : Res D := match v with
  | .ref m => if k ≤ m then .ok (.ref (L + (m - k))) h else .bad
  | v => if low 0 v = true then .ok v h else .bad
def callOp (F : FM) (ds : List D) (h : Hh) : Res D :=
  if (refsOf ds).Nodup ∧ argLow ds = true then match getC h (refsOf ds) with
    | some cs => if cs.all (obLow 0) = true then match F (renD 0 ds) cs with
      | .ok v c1 => if c1.all (obLow 0) = true ∧ (refsOf ds).length ≤ c1.length then outC h.length (refsOf ds).length v (putC h (refsOf ds) (c1.take (refsOf ds).length) ++ c1.drop (refsOf ds).length) else .bad
      | _ => .bad
      else .bad
    | none => .bad
  else .bad
theorem getC_get {h : Hh} : ∀ {ns : List Nat} {cs : Hh}, getC h ns = some cs → cs.length = ns.length ∧ ∀ (i n : Nat), ns[i]? = some n → ∃ c, cs[i]? = some c ∧ h[n]? = some c
  | [], cs, e => by
    unfold getC at e; cases e
    exact ⟨rfl, fun i n q => by simp at q⟩
  | m :: r, cs, e => by
    unfold getC at e
    split at e
    · rename_i c s e1 e2
      cases e
      obtain ⟨l, q⟩ := getC_get e2
      refine ⟨by simp [l], fun i n z => ?_⟩
      cases i with
      | zero => simp at z; subst z; exact ⟨c, rfl, e1⟩
      | succ i => simpa using q i n (by simpa using z)
    · cases e
theorem putC_length {h : Hh} : ∀ {ns : List Nat} {cs : Hh}, (putC h ns cs).length = h.length
  | [], _ => rfl
  | _ :: _, [] => rfl
  | n :: r, c :: s => by unfold putC; rw [List.length_set, putC_length]
theorem putC_out {h : Hh} {n : Nat} : ∀ {ns : List Nat} {cs : Hh}, n ∉ ns → (putC h ns cs)[n]? = h[n]?
  | [], _, _ => rfl
  | _ :: _, [], _ => rfl
  | m :: r, c :: s, hn => by
    unfold putC
    have : m ≠ n := fun e => hn (by rw [e]; exact List.mem_cons_self)
    rw [List.getElem?_set_ne this, putC_out fun q => hn (List.mem_cons_of_mem _ q)]
theorem putC_in {h : Hh} : ∀ {ns : List Nat} {cs : Hh} {i n : Nat}, ns.Nodup → cs.length = ns.length → n < h.length → ns[i]? = some n → (putC h ns cs)[n]? = cs[i]?
  | [], _, _, _, _, _, _, e => by simp at e
  | m :: r, [], _, _, _, l, _, _ => by simp at l
  | m :: r, c :: s, i, n, nd, l, hn, e => by
    unfold putC
    rw [List.nodup_cons] at nd
    cases i with
    | zero =>
      simp at e; subst e
      rw [List.getElem?_set_self (by rw [putC_length]; exact hn)] <;> rfl
    | succ i =>
      have e' : r[i]? = some n := by simpa using e
      have : m ≠ n := fun q => nd.1 (by rw [q]; exact List.mem_of_getElem? e')
      rw [List.getElem?_set_ne this, putC_in (i := i) nd.2 (by simpa using l) hn e']
      simp
theorem nodup_inj {α : Type} : ∀ {l : List α} {i j : Nat} {a : α}, l.Nodup → l[i]? = some a → l[j]? = some a → i = j
  | [], _, _, _, _, h, _ => by simp at h
  | x :: l, 0, 0, _, _, _, _ => rfl
  | x :: l, 0, j + 1, a, nd, h1, h2 => by
    rw [List.nodup_cons] at nd
    simp at h1 h2; subst h1
    exact absurd (List.mem_of_getElem? h2) nd.1
  | x :: l, i + 1, 0, a, nd, h1, h2 => by
    rw [List.nodup_cons] at nd
    simp at h1 h2; subst h2
    exact absurd (List.mem_of_getElem? h1) nd.1
  | x :: l, i + 1, j + 1, a, nd, h1, h2 => by
    rw [List.nodup_cons] at nd
    rw [nodup_inj (i := i) (j := j) nd.2 (by simpa using h1) (by simpa using h2)]
section
variable {K : PySem.W.Frag} {mu mu1 nu : List Addr} {Z Z1 H H1 : Hp} {h c1 cs : Hh} {ns : List Nat}
theorem foot_nu (sr : SR K mu Z H h) (e : getC h ns = some cs) : ∀ (i n : Nat), ns[i]? = some n → (ns.map fun n => mu.getD n 0)[i]? = mu[n]? := fun i n q => by
  obtain ⟨c, _, e2⟩ := (getC_get e).2 i n q
  have hn : n < mu.length := by rw [sr.len]; exact (List.getElem?_eq_some_iff.mp e2).1
  rw [List.getElem?_map, q]
  simp [List.getD, List.getElem?_eq_getElem hn]
theorem SR.foot (sr : SR K mu Z H h) (nd : ns.Nodup) (e : getC h ns = some cs) (hl : cs.all (obLow 0) = true) : SR K (ns.map fun n => mu.getD n 0) Z H cs := by
  obtain ⟨l, g⟩ := getC_get e
  have mem : ∀ n, n ∈ ns → ∃ a, mu[n]? = some a ∧ mu.getD n 0 = a := fun n hn => by
    obtain ⟨i, q⟩ := List.mem_iff_getElem?.mp hn
    obtain ⟨c, _, e2⟩ := g i n q
    have hn : n < mu.length := by rw [sr.len]; exact (List.getElem?_eq_some_iff.mp e2).1
    exact ⟨mu[n], by simp [hn], by simp [List.getD, List.getElem?_eq_getElem hn]⟩
  refine ⟨sr.zin, by simp [l], ?_, fun a ha => ?_, fun i ob a e1 e2 => ?_, sr.tb⟩
  · unfold List.Nodup
    rw [List.pairwise_map]
    refine List.Pairwise.imp_of_mem (fun {x y} hx hy hne q => hne ?_) nd
    obtain ⟨a, ea, ga⟩ := mem x hx
    obtain ⟨b, eb, gb⟩ := mem y hy
    rw [ga, gb] at q
    subst q
    exact nodup_inj sr.nd ea eb
  · obtain ⟨n, hn, q⟩ := List.mem_map.mp ha
    obtain ⟨b, eb, gb⟩ := mem n hn
    rw [← q, gb]
    exact sr.sep b (List.mem_of_getElem? eb)
  · have hi : i < ns.length := by rw [← l]; exact (List.getElem?_eq_some_iff.mp e1).1
    obtain ⟨c, q1, q2⟩ := g i ns[i] (by simp [hi])
    rw [e1] at q1; cases q1
    rw [foot_nu sr e i ns[i] (by simp [hi])] at e2
    exact (sr.cell _ _ _ q2 e2).low (k := 0) (fun n _ z => absurd z (Nat.not_lt_zero _)) (Sub.refl _) (fun _ z => z) (List.all_eq_true.mp hl _ (List.mem_of_getElem? e1))
theorem ren_reps : ∀ {ds : List D} {us : List V} (i : Nat), Reps K mu Z ds us → argLow ds = true → (∀ j n, (refsOf ds)[j]? = some n → nu[i + j]? = mu[n]?) → Reps K nu Z (renD i ds) us
  | [], _, _, .nil, _, _ => .nil
  | d :: ds, _, i, .cons r rs, al, hn => by
    cases d with
    | ref n =>
      simp only [argLow, renD, refsOf] at al hn ⊢
      cases r with
      | ref e =>
        refine .cons (.ref ?_) (ren_reps (i + 1) rs al fun j m q => ?_)
        · have := hn 0 n (by simp)
          rw [Nat.add_zero] at this
          rw [this]; exact e
        · have := hn (j + 1) m (by simpa using q)
          rw [← this]; congr 1; omega
    | _ =>
      simp only [argLow, renD, refsOf, Bool.and_eq_true] at al hn ⊢
      exact .cons (r.low (k := 0) (fun n _ z => absurd z (Nat.not_lt_zero _)) (Sub.refl _) al.1) (ren_reps i rs al.2 hn)
theorem SR.back (sr : SR K mu Z H h) (nd : ns.Nodup) (e : getC h ns = some cs) (sr1 : SR K mu1 Z1 H1 c1) (p1 : Stp (ns.map fun n => mu.getD n 0) Z H mu1 Z1 H1) (hl : c1.all (obLow 0) = true) :
    SR K (mu ++ mu1.drop ns.length) Z1 H1 (putC h ns (c1.take ns.length) ++ c1.drop ns.length) ∧ Stp mu Z H (mu ++ mu1.drop ns.length) Z1 H1 := by
  obtain ⟨l, g⟩ := getC_get e
  have fnu := foot_nu sr e
  have nmem : ∀ a, a ∈ (ns.map fun n => mu.getD n 0) → a ∈ mu := fun a ha => by
    obtain ⟨i, q⟩ := List.mem_iff_getElem?.mp ha
    have hi : i < ns.length := by have := (List.getElem?_eq_some_iff.mp q).1; simpa using this
    rw [fnu i ns[i] (by simp [hi])] at q
    exact List.mem_of_getElem? q
  have hmin : ∀ (n : Nat) (a : Addr), mu[n]? = some a → a ∈ (ns.map fun n => mu.getD n 0) → n ∈ ns := fun n a ea ha => by
    obtain ⟨i, q⟩ := List.mem_iff_getElem?.mp ha
    have hi : i < ns.length := by have := (List.getElem?_eq_some_iff.mp q).1; simpa using this
    rw [fnu i ns[i] (by simp [hi])] at q
    have := nodup_inj sr.nd ea q
    rw [this]; exact List.getElem_mem hi
  obtain ⟨xs, ex⟩ := p1.pre
  have hd : mu1.drop ns.length = xs := by rw [ex]; rw [List.drop_left' (by simp)]
  have l1 : c1.length = ns.length + xs.length := by rw [← sr1.len, ex]; simp
  have nz : ∀ a, a ∈ mu → Z1 a = none := fun a ha => by
    cases q : Z1 a with
    | none => rfl
    | some o =>
      rcases p1.nz a o q with z | z
      · rw [sr.sep a ha] at z; cases z
      · obtain ⟨o', t⟩ := sr.tracked ha
        rw [t] at z; cases z
  have nd1 := sr1.nd
  rw [ex, List.nodup_append] at nd1
  rw [hd]
  have vac : ∀ {m m' : List Addr} (n : Nat) (a : Addr), n < 0 → m[n]? = some a → m'[n]? = some a := fun n a z => absurd z (Nat.not_lt_zero _)
  constructor
  · refine ⟨sr1.zin, by simp [putC_length, sr.len, l1], ?_, fun a ha => ?_, fun n ob a e1 e2 => ?_, sr1.tb⟩
    · rw [List.nodup_append]
      refine ⟨sr.nd, nd1.2.1, fun a ha b hb q => ?_⟩
      subst q
      rcases p1.nm a (by rw [ex]; exact List.mem_append_right _ hb) with z | z
      · exact nd1.2.2 a z a hb rfl
      · obtain ⟨o', t⟩ := sr.tracked ha
        rw [t] at z; cases z
    · rcases List.mem_append.mp ha with q | q
      · exact nz a q
      · exact sr1.sep a (by rw [ex]; exact List.mem_append_right _ q)
    · by_cases hn : n < h.length
      · rw [List.getElem?_append_left (by rw [putC_length]; exact hn)] at e1
        rw [List.getElem?_append_left (by rw [sr.len]; exact hn)] at e2
        by_cases hin : n ∈ ns
        · obtain ⟨i, q⟩ := List.mem_iff_getElem?.mp hin
          have hi : i < ns.length := (List.getElem?_eq_some_iff.mp q).1
          rw [putC_in nd (by rw [List.length_take]; omega) hn q, List.getElem?_take_of_lt hi] at e1
          have e3 : mu1[i]? = some a := by
            rw [ex, List.getElem?_append_left (by simpa using hi), fnu i n q]
            exact e2
          exact (sr1.cell i ob a e1 e3).low (k := 0) vac (Sub.refl _) (fun _ z => z) (List.all_eq_true.mp hl _ (List.mem_of_getElem? e1))
        · rw [putC_out hin] at e1
          refine (sr.cell n ob a e1 e2).mono (pre_get ⟨xs, rfl⟩) p1.zm fun o q => p1.fr a o q (fun ha => hin (hmin n a e2 ha)) ((sr.cell n ob a e1 e2).ntb o q).1
      · rw [List.getElem?_append_right (by rw [putC_length]; omega), putC_length, List.getElem?_drop] at e1
        rw [List.getElem?_append_right (by rw [sr.len]; omega), sr.len] at e2
        have e3 : mu1[ns.length + (n - h.length)]? = some a := by
          rw [ex, List.getElem?_append_right (by simp)]
          simpa using e2
        exact (sr1.cell _ ob a e1 e3).low (k := 0) vac (Sub.refl _) (fun _ z => z) (List.all_eq_true.mp hl _ (List.mem_of_getElem? e1))
  · refine ⟨⟨xs, rfl⟩, p1.zm, fun a o q hm ht => p1.fr a o q (fun z => hm (nmem a z)) ht, fun a ha => ?_, p1.nz, p1.al⟩
    rcases List.mem_append.mp ha with q | q
    · exact .inl q
    · rcases p1.nm a (by rw [ex]; exact List.mem_append_right _ q) with z | z
      · exact .inl (nmem a z)
      · exact .inr z
/-- what a caller makes of it -/
theorem call_ok {F : FM} {ds : List D} {vs : List V} {W : Value → Option Addr → Hp → Prop} {Q : VK} {E : XK} {n : Nat} (sr : SR K mu Z H h) (rp : Reps K mu Z ds vs) (hn : vs.length = n)
    (o : Out K mu Z H (callOp F ds h) W fun v mu' Z' H' _ => ∀ u, Rep K mu' Z' v u → Q u H') : spF K n F vs H Q E := by
  refine ⟨hn, ?_⟩
  unfold callOp at o
  split at o
  · rename_i hc
    obtain ⟨nd, al⟩ := hc
    split at o
    · rename_i cs ec
      split at o
      · rename_i hl
        refine ⟨(refsOf ds).map fun n => mu.getD n 0, Z, cs, renD 0 ds, sr.foot nd ec hl, ren_reps 0 rp al fun j m q => by rw [Nat.zero_add]; exact foot_nu sr ec j m q, ?_⟩
        split at o
        · rename_i v c1 ef
          rw [ef]
          split at o
          · rename_i hl1
            intro mu1 Z1 H1 sr1 p1 u ru
            obtain ⟨sr2, p2⟩ := sr.back nd ec sr1 p1 hl1.1
            unfold outC at o
            cases v with
            | ref m =>
              simp only at o
              split at o
              · rename_i hm
                refine o _ _ _ sr2 p2 u ?_
                cases ru with
                | ref er =>
                  refine .ref ?_
                  rw [List.getElem?_append_right (by rw [sr.len]; omega), List.getElem?_drop, ← er]
                  congr 1
                  rw [sr.len]; omega
              · exact o.elim
            | _ =>
              simp only at o
              split at o
              · rename_i hlow
                exact o _ _ _ sr2 p2 u (ru.low (k := 0) (fun n _ z => absurd z (Nat.not_lt_zero _)) (Sub.refl _) hlow)
              · exact o.elim
          · exact o.elim
        · exact o.elim
      · exact o.elim
    · exact o.elim
  · exact o.elim
end
def mCall (F : FM) (ms : AM) : EM := fun s h => (ms s h).bind fun ds h1 => callOp F ds h1
/-- a def as it may be called -/
structure Cb (P : Program) (w : World) (K : PySem.W.Frag) (mg : Str → Option Value) (base : Heap) (k : Nat) (x : Str) (n : Nat) (F : FM) : Prop where
  ex : ∃ (f : Addr) (fd : FuncData) (ps : List Str), FnOk P w K mg base CX0 k f fd ps (spF K n F) ∧ mg x = some (.ref f) ∧ PySem.W.keepIn K (.ref f) = true ∧ Binds K fd ps []
section
variable {W : WXx} {X : Cx} {e : Expr} {es : List Expr} {x : Str} {k n : Nat} {F : FM} {ms : AM} {p pos : Pos}
theorem Cb.mono {P : Program} {w : World} {K : PySem.W.Frag} {mg : Str → Option Value} {base : Heap} {j : Nat} (c : Cb P w K mg base j x n F) (h : j ≤ k) : Cb P w K mg base k x n F := by
  obtain ⟨f, fd, ps, a, b, c, d⟩ := c.ex
  exact ⟨f, fd, ps, a.mono h, b, c, d⟩
theorem se_call (c : Cb X.prog X.w X.K X.mg X.base k x n F) (hr : Room k X.A) (hg : Gl X x) (ha : SA W X (e :: es) ms) (hn : (e :: es).length = n)
    (hm : ∀ s h ds h1, ms s h = .ok ds h1 → ds.length = n)
    (hdb : (x == ("__debug__" : Str)) = false := by decide) (he : starEach (e :: es) X.env = (false, eval e X.env) :: starEach es X.env := by rfl) (hpl : (backTo pos (starEach es X.env)).any (·.1) = false := by rfl) :
    SE W X (.Call (.Name x p) (e :: es) [] pos) (mCall F ms) := by
  obtain ⟨f, fd, ps, c1, c2, c3, c4⟩ := c.ex
  refine PE.imp (pe_call (E := fun _ _ _ => False) c1 hr hg c2 c3 c4 .nil pass0 ha hdb he hpl) fun sg H Q o => ?_
  obtain ⟨mu, Z, h, s, sr, sl, _, o⟩ := o
  refine ⟨mu, Z, h, s, sr, sl, ?_⟩
  unfold mCall at o
  cases em : ms s h with
  | ok ds h1 =>
    simp only [em, Res.bind_ok] at o
    intro mu1 Z1 H1 sr1 p1 us ru
    rw [List.append_nil]
    exact call_ok sr1 ru (by rw [← ru.length]; exact hm s h ds h1 em) (Out.mono p1 o fun _ _ _ _ _ _ q => q)
  | ex x h1 =>
    simp only [em, Res.bind_ex] at o
    exact o
  | bad =>
    simp only [em, Res.bind_bad] at o
    exact o.elim
theorem se_call0 (c : Cb X.prog X.w X.K X.mg X.base k x 0 F) (hr : Room k X.A) (hg : Gl X x)
    (hdb : (x == ("__debug__" : Str)) = false := by decide) : SE W X (.Call (.Name x p) [] [] pos) (mCall F mNil) := by
  obtain ⟨f, fd, ps, c1, c2, c3, c4⟩ := c.ex
  refine PE.imp (pe_call0 (E := fun _ _ _ => False) c1 hr hg c2 c3 c4 .nil pass0 hdb) fun sg H Q o => ?_
  obtain ⟨mu, Z, h, s, sr, sl, _, o⟩ := o
  exact call_ok (E := fun _ _ _ => False) sr .nil rfl o
theorem mNil_len : ∀ s h ds h1, mNil s h = .ok ds h1 → ds.length = 0 := fun s h ds h1 q => by unfold mNil at q; cases q; rfl
theorem mCons_len {fa : EM} {ms : AM} {n : Nat} (hm : ∀ s h ds h1, ms s h = .ok ds h1 → ds.length = n) : ∀ s h ds h1, mCons fa ms s h = .ok ds h1 → ds.length = n + 1 := fun s h ds h1 q => by
  unfold mCons at q
  cases ea : fa s h with
  | ok v h2 =>
    simp only [ea, Res.bind_ok] at q
    cases eb : ms s h2 with
    | ok ds2 h3 =>
      simp only [eb, Res.bind_ok] at q
      cases q
      simp [hm _ _ _ _ eb]
    | ex x h3 => simp only [eb, Res.bind_ex] at q; cases q
    | bad => simp only [eb, Res.bind_bad] at q; cases q
  | ex x h3 => simp only [ea, Res.bind_ex] at q; cases q
  | bad => simp only [ea, Res.bind_bad] at q; cases q
end
end TB
end

section
set_option Elab.async false
set_option linter.all false
set_option maxRecDepth 100000
set_option maxHeartbeats 4000000
/-! TB14: what set(xs) makes of texts and whole numbers: a table of just these keys, each once, that can be walked. -/
namespace TB
open PySem PySem.Spec PyProof.Rows L2
variable [LC] [LT]
open Classical
/-- the key that a value is -/
def kfun : Value → Key
  | .int k _ => .inl k
  | .str x _ => .inr x
  | _ => .inl 0
theorem kfun_is {k : Key} {v : Value} (h : keyIs k v = true) : kfun v = k := by
  rcases keyIs_shape h with ⟨i, t, rfl, rfl⟩ | ⟨x, t, rfl, rfl⟩ <;> rfl
theorem key_scans {k : Key} {v : Value} (h : keyIs k v = true) : v.scannable = true := by
  rcases keyIs_shape h with ⟨i, t, rfl, rfl⟩ | ⟨x, t, rfl, rfl⟩ <;> rfl
abbrev Ents := Array (Int × Value)
def enK (e : Int × Value) : Key := kfun e.2
/-- the entries hold just the keys ks -/
structure KTab (w : World) (es : Ents) (ks : List Key) : Prop where
  each : ∀ e, e ∈ es.toList → ∃ k, keyIs k e.2 = true ∧ e.1 = keyH w k
  perm : (es.toList.map enK).Perm ks
  once : ks.Nodup
  few : ks.length < scanBound
/-- the table can be walked -/
structure Fine (w : World) (es : Ents) (t : SetTable) : Prop where
  fit : t.fits es.size = true
  ris : Ris t.place.toList
  led : w.params.followText "set-order" = true ∨ t.led = true
/-- a set object of the keys ks -/
def KSet (w : World) (h : Heap) (a : Addr) (ks : List Key) : Prop :=
  ∃ (o : Obj) (es : Ents) (ep : Nat) (t : SetTable), (h.get? a = some o ∧ o.ExactSet ∧ o.data = .set es ep t) ∧ KTab w es ks ∧ Fine w es t
section
variable {P : Program} {w : World} {es : Ents} {t : SetTable} {ks : List Key} {k : Key} {u : Value}
theorem KTab.size (T : KTab w es ks) : es.size = ks.length := by
  have := T.perm.length_eq
  simpa using this
theorem KTab.scan (T : KTab w es ks) : es.size < scanBound := T.size ▸ T.few
theorem KTab.elems (T : KTab w es ks) : ElemsOf (mixKind P w) es.toList := fun e m =>
  let ⟨k, q, r⟩ := T.each e m
  ⟨⟨k, q, r⟩, key_scans q⟩
theorem KTab.re {es' : Ents} (T : KTab w es ks) (p : es'.toList.Perm es.toList) : KTab w es' ks :=
  ⟨fun e m => T.each e (p.mem_iff.mp m), (p.map enK).trans T.perm, T.once, T.few⟩
theorem KTab.more {es' : Ents} (T : KTab w es ks) (q : keyIs k u = true) (n : k ∉ ks) (room : ks.length + 1 < scanBound) (p : es'.toList.Perm (es.toList ++ [(keyH w k, u)])) : KTab w es' (ks ++ [k]) where
  each e m := by
    rcases List.mem_append.mp (p.mem_iff.mp m) with m | m
    · exact T.each e m
    · rw [List.mem_singleton.mp m]
      exact ⟨k, q, rfl⟩
  perm := by
    have p1 := p.map enK
    simp only [List.map_append, List.map_cons, List.map_nil, enK, kfun_is q] at p1
    exact p1.trans (T.perm.append_right [k])
  once := List.nodup_append.mpr ⟨T.once, by simp, fun a ha b hb e => n (by simp at hb; rw [← hb, ← e]; exact ha)⟩
  few := by simpa using room
/-- what the search by the keys finds -/
theorem KTab.finds (T : KTab w es ks) : (∃ e, e ∈ es.toList ∧ keyIs k e.2 = true) ↔ k ∈ ks := by
  rw [← T.perm.mem_iff, List.mem_map]
  constructor
  · rintro ⟨e, m, q⟩
    exact ⟨e, m, kfun_is q⟩
  · rintro ⟨e, m, rfl⟩
    obtain ⟨j, q, _⟩ := T.each e m
    refine ⟨e, m, ?_⟩
    unfold enK
    rwa [kfun_is q]
theorem Fine.lay (f : Fine w es t) (i : Int) (x : Value) : Fine w (layNew t es i x).1 (layNew t es i x).2.1 :=
  ⟨layNew_fits t es i x, layNew_ris t es i x f.ris, f.led.elim .inl fun z => .inr ((layNew_led t es i x).trans z)⟩
theorem Fine.grow (f : Fine w es t) (n : Nat) : Fine w (relayAll t es n).1 (relayAll t es n).2.1 :=
  ⟨relayAll_fits t es n, relayAll_ris t es n, f.led.elim .inl fun z => .inr ((relayAll_led t es n).trans z)⟩
theorem Fine.off (f : Fine w es t) (b : Bool) : Fine w es (if b = true then t else { t with plain := false }) := by
  cases b
  · exact ⟨SetTable.fits_plain_off f.fit, f.ris, f.led⟩
  · exact f
theorem KSet.kept {h h' : Heap} {a : Addr} (S : KSet w h a ks) (k : ∀ o, h.get? a = some o → h'.get? a = some o) : KSet w h' a ks := by
  obtain ⟨o, es, ep, t, ⟨ho, q⟩, r⟩ := S
  exact ⟨o, es, ep, t, ⟨k o ho, q⟩, r⟩
theorem KSet.is {h : Heap} {a : Addr} (S : KSet w h a ks) : ∃ o, h.get? a = some o :=
  let ⟨o, _, _, _, q, _⟩ := S
  ⟨o, q.1⟩
end
section
variable {P : Program} {w : World} {A : Around} {E : Value → Shared → Prop} {s : Shared} {a : Addr} {ks : List Key} {k : Key} {u : Value}
theorem gave_way (b : Bool) {s : Shared} {Q : Unit → Shared → Prop} (q : Q () s) : wpAny (model P w) A ((match b with | true => rule "set.scan.the-table-gave-way" | false => pure ())) Q E s := by
  cases b
  · exact wpAny_pure q
  · exact wpAny_rule q
/-- one key more -/
theorem add_key {Q : Bool → Shared → Prop} (S : KSet w s.heap a ks) (q : keyIs k u = true) (room : ks.length + 1 < scanBound)
    (fin : ∀ h' ks' b, Heap.SameBut a s.heap h' → KSet w h' a ks' → (∀ j, j ∈ ks' ↔ j ∈ ks ∨ j = k) → ks'.length ≤ ks.length + 1 → Q b { s with heap := h' }) :
    wpAny (model P w) A (setAddHashed a u ((mixKind P w).hash k)) Q E s := by
  obtain ⟨o, es, ep, t, ⟨ho, hex, hd⟩, T, F⟩ := S
  have sc := key_scans q
  have el := T.elems (P := P)
  unfold setAddHashed setAddHashedIn
  refine wpAny_holding (wpAny_bind (wpAny_setState_of ho hd F.fit ?_))
  dsimp only
  rw [if_pos (byScan_of sc T.scan el)]
  unfold setAddByScan
  refine wpAny_bind (wpAny_bind (wpAny_rule (wpAny_bind (wpAny_setScan_of q ho hd F.fit el ?_))))
  cases fi : List.findIdx? (fun e => (mixKind P w).is k e.2) es.toList with
  | some j =>
    have inn : k ∈ ks := by
      obtain ⟨lt, z, _⟩ := List.findIdx?_eq_some_iff_getElem.mp fi
      exact T.finds.mp ⟨_, List.getElem_mem lt, z⟩
    refine wpAny_pure (wpAny_pure (fin _ ks _ (Heap.SameBut.refl a s.heap) ⟨o, es, ep, t, ⟨ho, hex, hd⟩, T, F⟩ (fun i => ?_) (Nat.le_succ _)))
    constructor
    · exact .inl
    · rintro (z | rfl)
      · exact z
      · exact inn
  | none =>
    have out : k ∉ ks := fun z => by
      obtain ⟨e, m, c⟩ := T.finds.mpr z
      have d := List.findIdx?_eq_none_iff.mp fi e m
      exact absurd (d.symm.trans c) (by simp)
    dsimp only
    have T1 := T.more q out room (es' := (layNew t es ((mixKind P w).hash k) u).1) (by
      have z := layNew_perm t es ((mixKind P w).hash k) u
      rwa [Array.toList_push] at z)
    have F1 := F.lay ((mixKind P w).hash k) u
    generalize layNew t es ((mixKind P w).hash k) u = Z at T1 F1 ⊢
    obtain ⟨e1, t1, wd, gw⟩ := Z
    dsimp only at T1 F1 ⊢
    have mem : ∀ i, i ∈ ks ++ [k] ↔ i ∈ ks ∨ i = k := fun i => by simp
    refine wpAny_bind (gave_way gw ?_)
    split
    case' isTrue =>
      refine wpAny_bind ?_
      rw [hashByValue_scannable 8 sc]
      refine wpAny_pure ?_
      have F2 := F1.off (plainKind u)
      generalize (if plainKind u = true then t1 else { t1 with plain := false }) = t2 at F2 ⊢
    case' isFalse =>
      refine wpAny_bind (wpAny_pure ?_)
      have F2 := F1.off true
      generalize (if true = true then t1 else { t1 with plain := false }) = t2 at F2 ⊢
    all_goals
      refine wpAny_bind (wpAny_storeSet_of ho hd ?_ (fits_of_scanBound T1.scan))
      have o2 := store_at (es' := e1) (t' := t2) ho hd
      have b2 := Heap.SameBut.update s.heap a (Obj.putSet e1 t2)
      split
      · have T3 := T1.re (relayAll_perm t2 e1 (SetTable.grown e1.size))
        have F3 := F2.grow (SetTable.grown e1.size)
        generalize relayAll t2 e1 (SetTable.grown e1.size) = Y at T3 F3 ⊢
        obtain ⟨e3, t3, g3⟩ := Y
        dsimp only at T3 F3 ⊢
        refine wpAny_bind (gave_way g3 ?_)
        refine wpAny_bind (wpAny_storeSet_of o2 rfl ?_ (fits_of_scanBound T3.scan))
        exact wpAny_pure (wpAny_pure (fin _ _ _ (b2.trans (Heap.SameBut.update _ a _)) ⟨_, e3, _, t3, ⟨store_at (es' := e3) (t' := t3) o2 rfl, hex, rfl⟩, T3, F3⟩ mem (by simp)))
      · exact wpAny_pure (wpAny_pure (fin _ _ _ b2 ⟨_, e1, _, t2, ⟨o2, hex, rfl⟩, T1, F2⟩ mem (by simp)))
end
/-- the values are just these keys -/
inductive KeysAre : List Value → List Key → Prop
  | nil : KeysAre [] []
  | cons {k : Key} {v : Value} {ks : List Key} {vs : List Value} : keyIs k v = true → KeysAre vs ks → KeysAre (v :: vs) (k :: ks)
theorem KeysAre.length : ∀ {vs : List Value} {ks : List Key}, KeysAre vs ks → vs.length = ks.length
  | _, _, .nil => rfl
  | _, _, .cons _ r => by simp [KeysAre.length r]
theorem KeysAre.at : ∀ {vs : List Value} {ks : List Key}, KeysAre vs ks → ∀ (i : Nat) (v : Value), vs[i]? = some v → ∃ k, ks[i]? = some k ∧ keyIs k v = true
  | _, _, .nil, i, v, e => by simp at e
  | _, _, .cons h r, 0, v, e => by simp at e; subst e; exact ⟨_, rfl, h⟩
  | _, _, .cons h r, i + 1, v, e => by simpa using KeysAre.at r i v (by simpa using e)
/-- the set at p holds the first i of ns -/
def Has (w : World) (ns : List Key) (p : Addr) (i : Nat) (h : Heap) : Prop := ∃ ks, KSet w h p ks ∧ (∀ j, j ∈ ks ↔ j ∈ ns.take i) ∧ ks.length ≤ i
theorem Has.kept {w : World} {ns : List Key} {p : Addr} {i : Nat} {h h' : Heap} (x : Has w ns p i h) (k : ∀ o, h.get? p = some o → h'.get? p = some o) : Has w ns p i h' :=
  let ⟨ks, S, r⟩ := x
  ⟨ks, S.kept k, r⟩
/-- a new set -/
abbrev setO (w : World) : Obj := { cls := .type "set", dict := none, data := .set #[] 0 (.fresh 0 0 (!w.params.followText "set-order")) }
theorem Has.new {w : World} {ns : List Key} {p : Addr} {h : Heap} (e : h.get? p = some (setO w)) : Has w ns p 0 h := by
  refine ⟨[], ⟨_, #[], 0, _, ⟨e, ⟨rfl, rfl, rfl⟩, rfl⟩, ⟨fun e m => by simp at m, by simp, .nil, by decide⟩, ⟨rfl, .nil, ?_⟩⟩, by simp, Nat.le_refl _⟩
  show _ ∨ (!w.params.followText "set-order") = true
  cases w.params.followText "set-order" <;> simp
section
variable {P : Program} {w : World} {A : Around} {E : Value → Shared → Prop}
/-- the turns that fill a set -/
theorem fill {I p : Addr} {fp wr : List Addr} {G : Array GenState → Array GenState → Prop} {n : Nat} {Pv : Nat → Value → Prop} {St : Nat → Shared → Prop} {R : Result → Shared → Prop}
    (W : WalksS P w A.in1 I fp wr G n Pv St) (off : p ∉ fp) (ns : List Key) (hn : n = ns.length) (few : ns.length + 1 < scanBound) (val : ∀ i v, Pv i v → ∃ k, ns[i]? = some k ∧ keyIs k v = true) :
    ∀ (m i : Nat) (s : Shared), i + m = n → St i s → Has w ns p i s.heap → (∀ s', Moved (p :: wr) G s s' → Has w ns p n s'.heap → R (.ok (.ret .none)) s') →
      codeAny (model P w) A (.builtin "set.update.loop" ⟨[.ref p, .ref I], []⟩) R s
  | 0, i, s, e, st, has, fin => by
    obtain rfl : i = n := by omega
    refine codeAny_builtin F.entry_set_update_loop (Eq.mpr (by rw [Around.under_plainId F.plain_set_update_loop _]) (?_ : wpAny (model P w) A.in1 (Builtin.«set.update.loop» ⟨[.ref p, .ref I], []⟩) _ _ s))
    show wpAny _ _ (pyNext (.ref I) >>= _) _ _ s
    exact wpAny_bind (W.done s _ _ st fun s' mv => wpAny_pure (fin s' (mv.mono fun _ => List.mem_cons_of_mem _) (has.kept fun o => mv.heap p o fun c => off (W.sub p c))))
  | m + 1, i, s, e, st, has, fin => by
    refine codeAny_builtin F.entry_set_update_loop (Eq.mpr (by rw [Around.under_plainId F.plain_set_update_loop _]) (?_ : wpAny (model P w) A.in1 (Builtin.«set.update.loop» ⟨[.ref p, .ref I], []⟩) _ _ s))
    show wpAny _ _ (pyNext (.ref I) >>= _) _ _ s
    refine wpAny_bind (W.item i s _ _ (by omega) st fun v s' hv st' mv => ?_)
    obtain ⟨k, hk, kv⟩ := val i v hv
    obtain ⟨ks, S, mem, len⟩ := has.kept fun o => mv.heap p o fun c => off (W.sub p c)
    show wpAny _ _ (holding [v] (setAdd p v) >>= _) _ _ s'
    refine wpAny_bind (wpAny_holding (wpAny_holding (wpAny_bind ((mixKind P w).pyHash (k := k) kv ?_))))
    refine add_key (s := { s' with toks := s'.toks + 1 }) S kv (by omega) fun h' ks' _ sb S' mem' len' => ?_
    refine wpAny_pure ⟨plainId_quiet F.plain_set_update_loop _, fill W off ns hn few val m (i + 1) _ (by omega) (W.frame _ s' _ _ st' (Nat.le_succ _) fun b hb o e => ?_) ⟨ks', S', fun j => ?_, by omega⟩ fun s2 mv2 has2 => fin s2 ?_ has2⟩
    · rw [sb.2 b fun c : b = p => off (c ▸ hb)]
      exact e
    · rw [mem' j, mem j, List.take_add_one, hk]
      simp
    · refine Moved.trans W.gtrans ((mv.mono fun _ => List.mem_cons_of_mem _).then_heap (Nat.le_succ _) fun b o hb e => ?_) mv2
      rw [sb.2 b fun c : b = p => hb (c ▸ List.mem_cons_self)]
      exact e
/-- the fresh set is filled from a tuple or a list -/
theorem init_run {B : Around} {s : Shared} {p l : Addr} {items : Array Value} (ns : List Key) {R : Fin → Shared → Prop} (calm : B.in1.handled = none) (at_ : s.heap.get? p = some (setO w)) (ne : l ≠ p) (src : s.heap.IsTuple l items ∨ s.heap.IsList l items) (are : KeysAre items.toList ns) (few : ns.length + 1 < scanBound)
    (fin : ∀ h' tk, Has w ns p ns.length h' → (∀ b o, b ≠ p → s.heap.get? b = some o → h'.get? b = some o) → R (.done (.ret .none)) { s with heap := h', toks := tk }) :
    wpAny (model P w) B (Builtin.«set.__init__» ⟨[.ref p, .ref l], []⟩) R E s := by
  have len : items.size = ns.length := by
    have := are.length
    simpa using this
  have vals : ∀ (i : Nat) (v : Value), items[i]? = some v → ∃ k, ns[i]? = some k ∧ keyIs k v = true := fun i v e => are.at i v (by simpa using e)
  have pz := Heap.lt_size at_
  have ty : Shared.TypeIs s (.ref p) "set" := ⟨_, at_, rfl⟩
  rcases src with src | src
  case' inl => have f1 := F.sub_tuple_set; have f2 := F.sub_tuple_frozenset; have f3 : (Value.type "tuple" == Value.type "dict") = false := rfl
  case' inr => have f1 := F.sub_list_set; have f2 := F.sub_list_frozenset; have f3 : (Value.type "list" == Value.type "dict") = false := rfl
  all_goals
    obtain ⟨⟨oc, od, dt, sl⟩, e, ec, n, ed⟩ := id src
    simp only at ec ed
    subst ec ed
    have lz := Heap.lt_size e
    unfold Builtin.«set.__init__» noKeywords Builtin.Frozenset.updateFrom
    generalize hp : pyIter = PI
    wp_walk
    subst hp
    have nI : l ≠ s.heap.objs.size := Nat.ne_of_lt lz
    have off : p ∉ [s.heap.objs.size, l] := by simp [Nat.ne_of_lt pz, ne.symm]
    first | refine wpAny_pyIter_tuple src ?_ | refine wpAny_pyIter_list src ?_
    refine wpAny_bind (wpAny_runValue ?_)
    first
      | refine fill (Walks.tuple calm _ l nI items).toS off ns len few vals items.size 0 _ (Nat.zero_add _) ⟨⟨_, Heap.get?_push_size _ rfl, rfl, rfl⟩, src.push _⟩ (Has.new (Heap.get?_push_of_some _ at_)) fun s' mv has => ?_
      | refine fill (Walks.list calm _ l nI items).toS off ns len few vals items.size 0 _ (Nat.zero_add _) ⟨⟨_, Heap.get?_push_size _ rfl, rfl, rfl⟩, src.push _⟩ (Has.new (Heap.get?_push_of_some _ at_)) fun s' mv has => ?_
    have kp : ∀ b o, b ≠ p → s.heap.get? b = some o → s'.heap.get? b = some o := fun b o nb hb =>
      mv.heap b o (by simp [nb, Nat.ne_of_lt (Heap.lt_size hb)]) (Heap.get?_push_of_some _ hb)
    have r1 := mv.gens; have r2 := mv.drawn; have r3 := mv.os
    obtain ⟨h', g', d', tk', os'⟩ := s'
    obtain rfl : g' = s.gens := r1
    obtain rfl : d' = s.drawn := r2
    obtain rfl : os' = s.os := r3
    exact wpAny_pure (wpAny_pure (fin h' tk' (len ▸ has) kp))
/-- set(xs) of a tuple or a list of keys -/
theorem call_set_keys {s : Shared} {l : Addr} {items : Array Value} (ns : List Key) {Q : Value → Shared → Prop} (calm : A.handled = none) (src : s.heap.IsTuple l items ∨ s.heap.IsList l items) (are : KeysAre items.toList ns) (few : ns.length + 1 < scanBound)
    (fin : ∀ h' tk ks, KSet w h' s.heap.objs.size ks → (∀ j, j ∈ ks ↔ j ∈ ns) → ks.length ≤ ns.length → (∀ b o, s.heap.get? b = some o → h'.get? b = some o) → Q (.ref s.heap.objs.size) { s with heap := h', toks := tk }) :
    wpAny (model P w) A (call (.type "set") [.ref l]) Q E s := by
  have len : items.size = ns.length := by
    have := are.length
    simpa using this
  have lt : l < s.heap.objs.size := by
    rcases src with ⟨o, e, _⟩ | ⟨o, e, _⟩ <;> exact Heap.lt_size e
  have vals : ∀ (i : Nat) (v : Value), items[i]? = some v → ∃ k, ns[i]? = some k ∧ keyIs k v = true := fun i v e => are.at i v (by simpa using e)
  have calm3 : A.in1.in1.in1.handled = none := by simp [calm]
  obtain ⟨c, r, mro⟩ := F.called_set.mro
  have z1 := F.called_set.made; have z2 := F.called_set.sub; have z3 := F.called_set.notType; have z4 := F.called_set.canCreate; have z5 := F.typeCall_set_1 (.ref l)
  refine wpAny_call (codeAny_of_tree (?_ : wpAny _ _ (callAny (.type "set") _) _ _ _))
  refine wpAny_pure ⟨Code.quiet_builtin _ (by decide +kernel), codeAny_builtin F.entry_type_call (Eq.mpr (by rw [Around.under_plain (weight_type_call_type "set" [.ref l] []) rfl]) ?_)⟩
  repeat (any_goals (first | assumption | wp_step))
  refine codeAny_mono (code_set_led1 (.ref l) (E := E) (Q₁ := fun v s1 => v = .ref s.heap.objs.size ∧ s1 = { s with heap := s.heap.push (setO w) }) ⟨rfl, rfl⟩) fun r s1 got => ?_
  rcases r with _ | fl
  · exact got
  cases fl
  case ok.ret v =>
    obtain ⟨rfl, rfl⟩ := got
    have at_ : (s.heap.push (setO w)).get? s.heap.objs.size = some (setO w) := Heap.get?_push_size _ rfl
    have ty : Shared.TypeIs { s with heap := s.heap.push (setO w) } (.ref s.heap.objs.size) "set" := ⟨_, at_, rfl⟩
    have z6 := F.called_set.init.lookup; have z7 := F.called_set.init.bind (.ref s.heap.objs.size)
    repeat (any_goals (first | assumption | wp_step))
    refine codeAny_mono (codeAny_call_builtin (R := wants (fun v s2 => v = .none ∧ ∃ h' tk, s2 = { s with heap := h', toks := tk } ∧ Has w ns s.heap.objs.size ns.length h' ∧ ∀ b o, s.heap.get? b = some o → h'.get? b = some o) E) F.called_set.init.plain F.entry_set_init (check_set_init_1 ty ?_)) fun r s2 got => ?_
    · refine init_run ns calm3 at_ (Nat.ne_of_lt lt) (src.imp (fun z => z.push _) fun z => z.push _) are few fun h' tk has kp => ⟨rfl, h', tk, rfl, has, fun b o e => kp b o (Nat.ne_of_lt (Heap.lt_size e)) (Heap.get?_push_of_some _ e)⟩
    · rcases r with _ | fl
      · exact got
      cases fl
      case ok.ret v =>
        obtain ⟨rfl, h', tk, rfl, ⟨ks, S, mem, few'⟩, kp⟩ := got
        rw [List.take_length] at mem
        repeat (any_goals (first | assumption | wp_step))
        exact fin _ _ ks S mem few' kp
      all_goals exact got.elim
  all_goals exact got.elim
end
end TB
end

section
set_option Elab.async false
set_option linter.all false
set_option maxRecDepth 100000
set_option autoImplicit false
set_option maxHeartbeats 1000000
/-! TB15: more statements: stores at places, op=, two names at once, n * m. -/
namespace TB
open PySem PySem.Spec PyProof.Rows L2
variable [LC] [LT]
section
variable {W : WXx} {X : Cx} {a b c e tg : Expr} {fa fb fc fe : EM} {pos p1 p2 p3 : Pos}
def mulOp : D → D → Hh → Res D := int2c cMul fun i j => .int (i * j)
theorem se_mul (ha : SE W X a fa) (hb : SE W X b fb) : SE W X (.BinOp a .Mult b pos) (m2 mulOp fa fb) := se_bin op_mul (op2_intc cMul_ok) ha hb

/-! ### xs[i] = v of a list that changes -/
def setOp (o i v : D) (h : Hh) : Res Unit := match o, i with
  | .ref n, .int k => match h[n]? with
    | some (.lst xs) => match ixN xs.length k with
      | some j => .ok () (h.set n (.lst (xs.set j v)))
      | none => .bad
    | _ => .bad
  | _, _ => .bad
/-- the target o[i] -/
def gSet (fo fi : EM) : GM := fun v s h => (fo s h).bind fun o h1 => (fi s h1).bind fun i h2 => (setOp o i v h2).bind fun _ h3 => .ok s h3
theorem SR.setL {K : PySem.W.Frag} {mu : List Addr} {Z H : Hp} {h : Hh} {n : Nat} {xs : List D} {a : Addr} {j : Nat} {d : D} {v : V} (sr : SR K mu Z H h) (hm : mu[n]? = some a) (hc : h[n]? = some (.lst xs)) (r : Rep K mu Z d v) {vs : List V} (hv : H a = some (.lst vs)) (rp : Reps K mu Z xs vs) (hl : xs.length ≤ sizeLine) :
    SR K mu Z (upd H a (.lst (vs.set j v))) (h.set n (.lst (xs.set j d))) ∧ Stp mu Z H mu Z (upd H a (.lst (vs.set j v))) :=
  sr.setM hm _ _ ⟨by simpa using hl, _, upd_same, rp.set r j⟩
theorem sg_set (ho : SE W X a fa) (hi : SE W X b fb)
    (hs : ∀ v, assign (.Subscript a b pos) X.env v = (do
      let ov ← holding [v] (eval a X.env)
      let iv ← holding [v, ov] (eval b X.env)
      standAt pos
      holding [v, ov, iv] (setItem ov iv v)
      release [v, ov, iv] []) := by intro _; rfl) : SG W X (.Subscript a b pos) (gSet fa fb) :=
  PG.imp (pg_sub ho hi set_list hs) fun v sg H Q o => by
    obtain ⟨mu, Z, h, s, d, sr, sl, r, o⟩ := o
    unfold gSet at o
    refine ⟨mu, Z, h, s, sr, sl, .nil, ?_⟩
    cases ea : fa s h with
    | ex x h1 => simp only [ea, Res.bind_ex] at o; exact o
    | bad => simp only [ea, Res.bind_bad] at o; exact o.elim
    | ok ov h1 =>
      simp only [ea, Res.bind_ok] at o
      intro mu1 Z1 H1 sr1 p1 uo ro
      have o1 := Out.mono p1 o fun _ _ _ _ _ _ q => q
      refine ⟨mu1, Z1, h1, s, sr1, sl.mono p1, .nil, ?_⟩
      cases eb : fb s h1 with
      | ex x h1 => simp only [eb, Res.bind_ex] at o1; exact o1
      | bad => simp only [eb, Res.bind_bad] at o1; exact o1.elim
      | ok iv h2 =>
        simp only [eb, Res.bind_ok] at o1
        intro mu2 Z2 H2 sr2 p2 ui ri
        have o2 := Out.mono p2 o1 fun _ _ _ _ _ _ q => q
        have ro2 := p2.rep ro
        have r2 := (p1.trans p2).rep r
        unfold setOp at o2
        split at o2
        · rename_i n k
          cases ri
          cases ro2 with
          | ref hm =>
            split at o2
            · rename_i xs hx
              split at o2
              · rename_i j hj
                obtain ⟨l, vs, e1, rp⟩ := sr2.cell n _ _ hx hm
                obtain ⟨q1, q2⟩ := sr2.setL (j := j) hm hx r2 e1 rp l
                refine ⟨_, vs, k, j, rfl, rfl, e1, by rw [← rp.length]; exact hj, ?_⟩
                exact o2 _ _ _ q1 q2 _ ((sl.mono p1).mono (p2.trans q2))
              · exact o2.elim
            · exact o2.elim
        · exact o2.elim

/-! ### x op= e of whole numbers -/
def sAug (i : Nat) (g : Int → Int → Int) (fe : EM) : SM := fun s h => match s[i]? with
  | some (some (.int x)) => stE (fe s h) s fun y h1 => match y with
    | .int y => .ok (.nx (s.set i (some (.int (g x y))))) h1
    | _ => .bad
  | _ => .bad
theorem ss_augI {i : Nat} {x : Str} {op : Operator} {g : Int → Int → Int} (ho : PIp X op (ipI g)) (hN : X.N.Nodup) (he : SE W X e fe) (hi : X.N[i]? = some x := by rfl) (hx : Loc X.env.scope x := by first | exact .inl rfl | exact .inr rfl) (hf : X.fn x = true ∨ X.env.scope.names.lookup x = some .local := by first | exact .inl rfl | exact .inr rfl) :
    SS W X (.AugAssign (.Name x p1) op e pos) (sAug i g fe) := PS.imp (ps_aug hN hi hx he ho hf) fun Dn sg H o => by
  obtain ⟨mu, Z, h, s, sr, sl, rp, o⟩ := o
  unfold sAug at o
  split at o
  · rename_i x hx
    obtain ⟨v, e1, r1⟩ := sl.at_ i _ hx
    cases r1
    refine ⟨_, e1, mu, Z, h, s, sr, sl, .nil, ?_⟩
    cases ee : fe s h with
    | ex x h1 => simp only [ee, stE] at o; exact fun mu' Z' H' c d sr' p' ex => o mu' Z' H' sr' p' _ _ _ (sl.mono p') ex
    | bad => simp only [ee, stE] at o; exact o.elim
    | ok y h1 =>
      simp only [ee, stE] at o
      intro mu1 Z1 H1 sr1 p1 u ru
      have o1 := Out.mono p1 o fun _ _ _ _ _ _ q => q
      split at o1
      · cases ru
        refine ⟨_, _, rfl, rfl, ?_⟩
        exact o1 mu1 Z1 H1 sr1 (Stp.refl _ _ _) _ ((sl.mono p1).set i (.int _))
      · exact o1.elim
  · exact o.elim
theorem ss_augAdd {i : Nat} {x : Str} (hN : X.N.Nodup) (he : SE W X e fe) (hi : X.N[i]? = some x := by rfl) (hx : Loc X.env.scope x := by first | exact .inl rfl | exact .inr rfl) (hf : X.fn x = true ∨ X.env.scope.names.lookup x = some .local := by first | exact .inl rfl | exact .inr rfl) :
    SS W X (.AugAssign (.Name x p1) .Add e pos) (sAug i (fun i j => i + j) fe) := ss_augI ip_add hN he hi hx hf

/-! ### a, b = e, e2 -/
def sPar (i j : Nat) (fa fb : EM) : SM := fun s h => stE (fa s h) s fun v h1 => stE (fb s h1) s fun w h2 => .ok (.nx ((s.set i (some v)).set j (some w))) h2
theorem ss_par {i j : Nat} {x y : Str} {kt k2 : Nat} (hc : X.calm = true) (hN : X.N.Nodup) (ha : SE W X a fa) (hb : SE W X b fb) (hij : i ≠ j := by decide) (hi : X.N[i]? = some x := by rfl) (hj : X.N[j]? = some y := by rfl)
    (hx : X.env.scope.names.lookup x = some .local := by rfl) (hy : X.env.scope.names.lookup y = some .local := by rfl)
    (hw : swappedStores [.Tuple [.Name x p1, .Name y p2] kt p3] (.Tuple [a, b] k2 pos) X.env = pure (some [x, y]) := by rfl)
    {q : Pos} (hs : swapsWithSole [.Tuple [.Name x p1, .Name y p2] kt p3] (.Tuple [a, b] k2 pos) q.line X.env = pure false := by rfl)
    (hs1 : starEach [a, b] X.env = (false, eval a X.env) :: starEach [b] X.env := by rfl) (hs2 : starEach [b] X.env = (false, eval b X.env) :: starEach [] X.env := by rfl) :
    SS W X (.Assign [.Tuple [.Name x p1, .Name y p2] kt p3] (.Tuple [a, b] k2 pos) q) (sPar i j fa fb) :=
  PS.imp (ps_par hc hN hi hj hij hx hy (sa_cons (W := W) ha (sa_cons hb sa_nil hs2) hs1) hw hs) fun Dn sg H o => by
    obtain ⟨mu, Z, h, s, sr, sl, rp, o⟩ := o
    refine ⟨mu, Z, h, s, sr, sl, ?_⟩
    unfold sPar at o
    unfold mCons mNil
    cases ea : fa s h with
    | ex x h1 => simp only [ea, stE] at o; exact fun mu' Z' H' c d sr' p' ex => o mu' Z' H' sr' p' _ _ _ (sl.mono p') ex
    | bad => simp only [ea, stE] at o; exact o.elim
    | ok v h1 =>
      simp only [ea, stE] at o
      simp only [Res.bind_ok]
      cases eb : fb s h1 with
      | ex x h1 => simp only [eb] at o; exact fun mu' Z' H' c d sr' p' ex => o mu' Z' H' sr' p' _ _ _ (sl.mono p') ex
      | bad => simp only [eb] at o; exact o.elim
      | ok w h2 =>
        simp only [eb] at o
        simp only [Res.bind_ok]
        intro mu1 Z1 H1 sr1 p1 us ru
        cases ru with
        | cons r1 ru =>
          cases ru with
          | cons r2 ru =>
            cases ru
            exact ⟨_, _, rfl, o mu1 Z1 H1 sr1 p1 _ (((sl.mono p1).set i r1).set j r2)⟩
end
end TB
end

section
set_option Elab.async false
set_option linter.all false
set_option maxRecDepth 100000
set_option autoImplicit false
set_option maxHeartbeats 1000000
/-! TB16: sorted. -/
namespace TB
open PySem PySem.Spec PyProof.Rows L2
variable [LC] [LT]

def isTupC : PyData → Bool
  | .tuple (_ :: _) => true
  | _ => false
def notTN : PyData → Bool
  | .none => false
  | .tuple _ => false
  | _ => true
/-- what can be sorted by itself -/
def srtOk (xs : List D) : Bool := xs.all okD && (((xs.map toPy).all fun d => (xs.map toPy).all fun e => W.alike d e) && ((xs.map toPy).all isTupC || (xs.map toPy).all notTN))
def leD (a b : D) : Bool := !W.dataLt (toPy b) (toPy a)
def sortD (xs : List D) : List D := xs.mergeSort leD

/-- items in a row, of a list, a tuple or a dict's keys -/
def Col (K : PySem.W.Frag) (H : Hp) (x : V) (xs : List V) : Prop := (∃ a, x = .ref a ∧ SqL K H a xs) ∨ (∃ a, x = .ref a ∧ SqT K H a xs) ∨ (∃ a kvs, x = .ref a ∧ Rd H a (.dK kvs) ∧ xs = kvs.map fun kv => kV kv.1) ∨ ∃ a w ys, x = .ref a ∧ Rd H a (NDO w a ys) ∧ xs = ys.map fun y => V.ref y.2.1
def leP (p q : V × PyData) : Bool := W.dataLe false (fun z : V × PyData => z.2) p q
def rSorted (K : PySem.W.Frag) : List V → Hp → VK → Prop := fun vs H Q => ∃ x xs ds, vs = [x] ∧ Col K H x xs ∧ W.EachIs (Dp K H) xs ds ∧ W.AllAlike ds ∧ W.Sortable ds ∧ (∀ d, d ∈ ds → d.depth ≤ 64) ∧
  ∀ p, H p = none → Q (.ref p) (upd H p (.lst (((xs.zip ds).mergeSort leP).map fun z => z.1)))
theorem keys_vals : ∀ {kvs : List (Key × V)} {acc : List Value}, acc.length = kvs.length → (∀ (j : Nat) (v : Value), acc[j]? = some v → ∃ k x, kvs[j]? = some (k, x) ∧ keyIs k v = true) → Vals (kvs.map fun kv => kV kv.1) acc
  | [], [], _, _ => .nil
  | [], _ :: _, l, _ => by simp at l
  | _ :: _, [], l, _ => by simp at l
  | (k, x) :: r, v :: acc, l, h => by
    refine .cons ?_ (keys_vals (by simpa using l) fun j u e => by simpa using h (j + 1) u (by simpa using e))
    obtain ⟨k', x', e1, e2⟩ := h 0 v rfl
    simp at e1
    obtain ⟨rfl, rfl⟩ := e1
    rcases keyIs_shape e2 with ⟨i, t, rfl, rfl⟩ | ⟨y, t, rfl, rfl⟩
    · exact ⟨t, rfl⟩
    · exact ⟨t, rfl⟩
theorem vals_at : ∀ {vs : List V} {us : List Value}, vs.length = us.length → (∀ (j : Nat) (u : Value), us[j]? = some u → ∃ v, vs[j]? = some v ∧ RelV v u) → Vals vs us
  | [], [], _, _ => .nil
  | [], _ :: _, l, _ => by simp at l
  | _ :: _, [], l, _ => by simp at l
  | v :: vs, u :: us, l, h => by
    refine .cons ?_ (vals_at (by simpa using l) fun j x e => by simpa using h (j + 1) x (by simpa using e))
    obtain ⟨v', e, r⟩ := h 0 u rfl
    simp at e
    rw [e]; exact r
theorem pr_get {α β : Type} {F : α → β → Prop} : ∀ {l : List α} {m : List β}, Paired F l m → ∀ {j : Nat} {b : β}, m[j]? = some b → ∃ a, l[j]? = some a ∧ F a b
  | _, _, .nil, j, b, e => by simp at e
  | _, _, .cons (a := a) h t, 0, b, e => by simp at e; subst e; exact ⟨a, rfl, h⟩
  | _, _, .cons h t, j + 1, b, e => by
    obtain ⟨a, e1, e2⟩ := pr_get t (j := j) (by simpa using e)
    exact ⟨a, by simpa using e1, e2⟩
section
variable {X : Cx} {pins : List (Addr × Obj)} {σ : L2.St} {H : Hp} {s : Shared}
/-- the items gathered -/
theorem col_run (hc : X.calm = true) {x : V} {u : Value} {xs : List V} {E : Value → Shared → Prop} {R : List Value → Shared → Prop} (I : Inv X pins σ H s) (rx : RelV x u) (h : Col X.K H x xs)
    (hR : xs.length ≤ sizeLine → ∀ h' tk its, (∀ b o, s.heap.get? b = some o → h'.get? b = some o) → Vals xs its → R its { s with heap := h', toks := tk }) : wpAny (model X.prog X.w) X.A.in1 (collect u) R E s := by
  rcases h with ⟨a, rfl, hs⟩ | ⟨a, rfl, hs⟩ | ⟨a, kvs, rfl, hd, rfl⟩ | ⟨a, w, ys, rfl, hd, rfl⟩
  · cases rx
    obtain ⟨its, rv, p, hz⟩ := I.list hs
    obtain ⟨o, ho, hcl, n, hdt⟩ := p.isList
    exact wpAny_collect_seq a (.inl rfl) ho hcl hdt (fun h' kp => by simpa using hR hz h' s.toks its kp rv) (by rw [List.size_toArray, ← rv.length]; exact hz)
  · cases rx
    obtain ⟨its, rv, p, hz⟩ := I.tuple hs
    obtain ⟨o, ho, hcl, n, hdt⟩ := p
    exact wpAny_collect_seq a (.inr rfl) ho hcl hdt (fun h' kp => by simpa using hR hz h' s.toks its kp rv) (by rw [List.size_toArray, ← rv.length]; exact hz)
  · cases rx
    obtain ⟨z, lo, vs, rel, dd⟩ := dk_rd I.hok hd
    obtain ⟨ep, hat⟩ := dd.dictAt
    have hl : kvs.length = vs.length := rel.length
    have hk : kvs.map (·.1) = vs.map (·.1) := rel.keys
    refine PySem.W.kdu_collect (A := X.A.in1) (PySem.W.kdl_dict (knd := mixKind X.prog X.w) (kvs := vs) (ep := ep) lo) (I.ok.hd hc) hat (by rw [← hl]; exact z) fun h' tk acc kp hacc => ?_
    refine hR (by rw [List.length_map]; exact z) h' tk acc.toList kp (keys_vals (by rw [Array.length_toList, hacc.1, hl]) fun j v e => ?_)
    obtain ⟨k, y, e1, e2⟩ := hacc.2 j v (by rw [← Array.getElem?_toList]; exact e)
    have e3 : (vs.map (·.1))[j]? = some k := by rw [List.getElem?_map, e1] <;> rfl
    rw [← hk, List.getElem?_map] at e3
    cases e4 : kvs[j]? with
    | none => rw [e4] at e3; cases e3
    | some q =>
      rw [e4] at e3
      obtain ⟨k2, y2⟩ := q
      have e5 : k2 = k := Option.some.inj e3
      subst e5
      exact ⟨k2, y2, rfl, e2⟩
  · cases rx
    obtain ⟨⟨lo, lz, xs, pr, nd, o, es, ep, ho, hx, hdt, hes⟩, _⟩ := hd.ok I.hok
    have hl : es.size = xs.length := by
      have : es.toList.length = es.size := Array.length_toList
      rw [← this, hes, List.length_map]
    have hly : ys.length = xs.length := pr.length
    refine PySem.W.kdu_collect (A := X.A.in1) (KdlSrc.rawDict (prog := X.prog) (w := X.w) (d := a) (es := es) (ep := ep) lo) (I.ok.hd hc) ⟨o, ho, hx, hdt⟩ ?_ fun h' tk acc kp hacc => ?_
    · rw [hl, ← hly]; exact lz
    · refine hR (by rw [List.length_map]; exact lz) h' tk acc.toList kp (vals_at (by rw [List.length_map]; exact hly.trans (hl.symm.trans (hacc.1.symm.trans Array.length_toList.symm))) fun j v e => ?_)
      obtain ⟨hi, rfl⟩ := hacc.2 j v (by rw [← Array.getElem?_toList]; exact e)
      have e1 : es.toList[j]? = some es[j] := by rw [Array.getElem?_toList, Array.getElem?_eq_getElem hi]
      rw [hes, List.getElem?_map] at e1
      cases e2 : xs[j]? with
      | none => rw [e2] at e1; cases e1
      | some x =>
        rw [e2] at e1
        have e3 := Option.some.inj e1
        obtain ⟨y, e4, e5⟩ := pr_get pr e2
        refine ⟨.ref y.2.1, by rw [List.getElem?_map, e4]; rfl, ?_⟩
        rw [← e3, e5.2.1]
        exact rfl
theorem each_zip {K : PySem.W.Frag} {H : Hp} : ∀ {xs : List V} {ds : List PyData} {its : List Value}, W.EachIs (Dp K H) xs ds → Vals xs its → W.EachIs (fun (v : Value) (b : V × PyData) => RelV b.1 v ∧ Dp K H b.1 b.2) its (xs.zip ds)
  | _, _, _, .nil, .nil => .nil
  | _, _, _, .cons h t, .cons r rs => .cons ⟨r, h⟩ (each_zip t rs)
theorem zip_snd {K : PySem.W.Frag} {H : Hp} : ∀ {xs : List V} {ds : List PyData}, W.EachIs (Dp K H) xs ds → (xs.zip ds).map (fun z => z.2) = ds
  | _, _, .nil => rfl
  | _, _, .cons h t => by simp [zip_snd t]
theorem each_vals {K : PySem.W.Frag} {H : Hp} : ∀ {out : List Value} {bs : List (V × PyData)}, W.EachIs (fun (v : Value) (b : V × PyData) => RelV b.1 v ∧ Dp K H b.1 b.2) out bs → Vals (bs.map fun z => z.1) out
  | _, _, .nil => .nil
  | _, _, .cons h t => .cons h.1 (each_vals t)
/-- a new list of what was gathered is sorted -/
theorem sort_run {xs : List V} {ds : List PyData} {its : List Value} {h' : Heap} {tk : Nat} {Q : VK} (hu : X.A.units + 66 < cLine) (I : Inv X pins σ H { s with heap := h', toks := tk }) (rv : Vals xs its) (e : W.EachIs (Dp X.K H) xs ds) (hal : W.AllAlike ds) (hk : W.Sortable ds) (hdp : ∀ d, d ∈ ds → d.depth ≤ 64)
    (hz : xs.length ≤ sizeLine) (q : ∀ p, H p = none → Q (.ref p) (upd H p (.lst (((xs.zip ds).mergeSort leP).map fun z => z.1)))) {E : Value → Shared → Prop} :
    wpAny (model X.prog X.w) X.A.in1 (newList its) (fun l s1 => wpAny (model X.prog X.w) X.A.in1 (holding [l] (call (.builtin "list.sort") [l])) (fun _ s2 => EP X pins σ Q l s2) E s1) E { s with heap := h', toks := tk } := by
  have hl := rv.length
  refine wpAny_newList ?_ (by rw [← hl]; exact hz)
  have hoL : (h'.push (seqObj "list" its.toArray 0)).get? h'.objs.size = some (seqObj "list" its.toArray 0) := Heap.get?_push_size _ rfl
  have ez := each_zip e rv
  have old : ∀ b o, h'.get? b = some o → (W.sortingHeap (h'.push (seqObj "list" its.toArray 0)) h'.objs.size its).get? b = some o := fun b o q => W.sortingHeap_old (Nat.ne_of_lt (Heap.lt_size q)) (Heap.get?_push_of_some _ q)
  have er : W.EachIs (fun (v : Value) (b : V × PyData) => ∃ as, Reads (W.sortingHeap (h'.push (seqObj "list" its.toArray 0)) h'.objs.size its) v b.2 as) its (xs.zip ds) := ez.mono fun v b hb => by
    obtain ⟨as, r⟩ := Dp.reads I b.2 b.1 v hb.2 hb.1
    exact ⟨as, PyProof.Rows.Reads.keeps old r⟩
  have hal' : W.AllAlike ((xs.zip ds).map fun z => z.2) := by rw [zip_snd e]; exact hal
  refine wpAny_holding (wpAny_call_entry PyProof.Rows.slot_list_sort ⟨_, hoL, rfl⟩ PyProof.Rows.entry_list_sort
    (W.list_sort_vals (κ := W.dataKind (W.sortingHeap (h'.push (seqObj "list" its.toArray 0)) h'.objs.size its) ((xs.zip ds).map fun z => z.2)) hoL (W.SortsAt.data (W.each_map (R := fun v d => ∃ as, Reads (W.sortingHeap (h'.push (seqObj "list" its.toArray 0)) h'.objs.size its) v d as) (fun z : V × PyData => z.2) er) hal' (by rw [zip_snd e]; exact hk) (by
      rw [zip_snd e]
      intro d hd
      have := hdp d hd
      show X.A.in1.in1.units + _ < _
      have e1 : X.A.in1.in1.units = X.A.units + 2 := rfl
      rw [e1]; omega)) (by rw [← hl]; exact hz) ⟨.none, rfl, ?_⟩) (PyProof.Rows.args_list_sort _))
  have eo := W.sortVals_data (R := fun (v : Value) (b : V × PyData) => RelV b.1 v ∧ Dp X.K H b.1 b.2) (enc := fun z : V × PyData => z.2) false ez er hal'
  obtain ⟨e', he'⟩ := PyProof.Rows.sortedHeap_at (vs := its) (out := (W.sortVals (W.dataKind (W.sortingHeap (h'.push (seqObj "list" its.toArray 0)) h'.objs.size its) ((xs.zip ds).map fun z => z.2)) false its its).toArray) hoL
  have ev := each_vals eo
  have hlen : (((xs.zip ds).mergeSort leP).map fun z => z.1).length ≤ sizeLine := by
    rw [List.length_map, List.length_mergeSort, List.length_zip]
    exact Nat.le_trans (Nat.min_le_left _ _) hz
  refine ⟨.ref h'.objs.size, upd H h'.objs.size (.lst (((xs.zip ds).mergeSort leP).map fun z => z.1)), I.laid (t' := tk) (fun b u q => ?_) (Nat.le_refl _) ⟨hlen, _, e', ev, he'⟩, rfl, q _ (I.hok.fresh (Nat.le_refl _))⟩
  have hb := Heap.lt_size q
  rw [PyProof.Rows.sortedHeap_old (Nat.ne_of_lt hb) (by rw [size_push']; exact Nat.lt_succ_of_lt hb)]
  exact Heap.get?_push_of_some _ q
theorem cr_sorted (hc : X.calm = true) (hu : X.A.units + 66 < cLine) : CallR X (.builtin "sorted") (rSorted X.K) := by
  intro pins s σ H vs us Q I r h
  obtain ⟨x, xs, ds, rfl, hcol, e, hal, hk, hdp, q⟩ := h
  obtain ⟨u, rfl, rx⟩ := vals1 r
  refine Calls.call_function_entry PyProof.Rows.kind_sorted PyProof.Rows.plain_sorted PyProof.Rows.entry_sorted (PyProof.Rows.args_sorted1 _) ?_
  unfold Builtin.«sorted»
  refine wpAny_bind (m := checkCount "sorted" 1 1 _) (wpAny_pure ?_)
  refine wpAny_bind (col_run hc I rx hcol fun hz h' tk its kp rv => ?_)
  have I1 : Inv X pins σ H { s with heap := h', toks := tk } := I.kept kp
  refine wpAny_bind (wpAny_mono (sort_run hu I1 rv e hal hk hdp hz q) (fun l s1 h1 => ?_) fun _ _ z => z)
  exact wpAny_bind (wpAny_mono h1 (fun _ s2 h2 => wpAny_pure ⟨_, rfl, h2⟩) fun _ _ z => z)
end

/-! ### over pure values -/
def colOf (h : Hh) (x : D) : Option (List D) := match sqOf h x with
  | some xs => some xs
  | none => match x with
    | .scr ns => some (ns.map D.int)
    | x => match dcOf h x with
      | some ks => some (ks.map fun kv => keyD kv.1)
      | none => match ditOf h x with
        | some kts => some (kts.map (·.1))
        | none => none
def sortedOp (hp : Bool) (xs : List D) (h : Hh) : Res D := match xs with
  | [x] => match colOf h x with
    | some ys => if srtOk ys = true then mkL hp (sortD ys) h else .bad
    | none => .bad
  | _ => .bad
section
variable {K : PySem.W.Frag} {mu : List Addr} {Z H : Hp} {h : Hh} {x : D} {v : V} {ys : List D}
theorem keys_reps : ∀ {ks : List (Key × D)} {kvs : List (Key × V)}, ks.map (·.1) = kvs.map (·.1) → (∀ k, k ∈ ks.map (·.1) → KOk k) → Reps K mu Z (ks.map fun kv => keyD kv.1) (kvs.map fun kv => kV kv.1)
  | [], [], _, _ => .nil
  | [], _ :: _, e, _ => by simp at e
  | _ :: _, [], e, _ => by simp at e
  | a :: ks, b :: kvs, e, ok => by
    simp only [List.map_cons, List.cons.injEq] at e
    refine .cons ?_ (keys_reps e.2 fun k hk => ok k (by simp only [List.map_cons]; exact List.mem_cons_of_mem _ hk))
    show Rep K mu Z (keyD a.1) (kV b.1)
    rw [← e.1]
    exact keyD_rep _ (ok _ (by simp))
theorem ints_reps : ∀ (ns : List Int), Reps K mu Z (ns.map D.int) (ns.map V.int)
  | [] => .nil
  | n :: r => .cons (.int n) (ints_reps r)
theorem SR.col (sr : SR K mu Z H h) (r : Rep K mu Z x v) (e : colOf h x = some ys) : ∃ vs, Col K H v vs ∧ Reps K mu Z ys vs ∧ ys.length ≤ sizeLine := by
  unfold colOf at e
  split at e
  · rename_i xs es
    cases e
    obtain ⟨a, vs, rfl, q, rp⟩ := sr.sq r es
    have l := sr.sqLen r es
    rcases q with q | q
    · exact ⟨vs, .inl ⟨a, rfl, q⟩, rp, l⟩
    · exact ⟨vs, .inr (.inl ⟨a, rfl, q⟩), rp, l⟩
  · split at e
    · cases e
      cases r with
      | scr q l => exact ⟨_, .inl ⟨_, rfl, sr.zin.sqL q⟩, ints_reps _, by simpa using l⟩
    · split at e
      · rename_i ks ek
        cases e
        obtain ⟨a, kvs, rfl, q, e1, ok, rp⟩ := sr.dc r ek
        exact ⟨_, .inr (.inr (.inl ⟨a, kvs, rfl, q, rfl⟩)), keys_reps e1 ok.1, by simpa using ok.2⟩
      · split at e
        · rename_i kts ek
          cases e
          obtain ⟨a, ys, rfl, q, e1, l, r1, r2⟩ := sr.dt r ek
          exact ⟨_, .inr (.inr (.inr ⟨a, _, ys, rfl, q, rfl⟩)), r1, by simpa using l⟩
        · cases e
theorem each_dp (hz : Sub Z H) : ∀ {xs : List D} {vs : List V}, Reps K mu Z xs vs → (∀ x, x ∈ xs → okD x = true) → W.EachIs (Dp K H) vs (xs.map toPy)
  | _, _, .nil, _ => .nil
  | _, _, .cons r rs, ok => by
    have o := ok _ (List.mem_cons_self)
    unfold okD at o
    rw [Bool.and_eq_true] at o
    exact .cons (r.dp hz o.1).1 (each_dp hz rs fun x hx => ok x (List.mem_cons_of_mem _ hx))
theorem each_rd : ∀ {xs : List D} {vs : List V}, Reps K mu Z xs vs → W.EachIs (fun (z : V × PyData) (d : D) => Rep K mu Z d z.1 ∧ z.2 = toPy d) (vs.zip (xs.map toPy)) xs
  | _, _, .nil => .nil
  | _, _, .cons r rs => .cons ⟨r, rfl⟩ (each_rd rs)
theorem each_reps : ∀ {xs : List D} {zs : List (V × PyData)}, W.EachIs (fun (z : V × PyData) (d : D) => Rep K mu Z d z.1 ∧ z.2 = toPy d) zs xs → Reps K mu Z xs (zs.map fun z => z.1)
  | _, _, .nil => .nil
  | _, _, .cons h t => .cons h.1 (each_reps t)
theorem sort_reps {xs : List D} {vs : List V} (r : Reps K mu Z xs vs) : Reps K mu Z (sortD xs) (((vs.zip (xs.map toPy)).mergeSort leP).map fun z => z.1) := by
  have e := each_rd r
  refine each_reps (W.sort_each e fun p hp q hq => ?_)
  have h1 := (e.zip p hp).2
  have h2 := (e.zip q hq).2
  show (!W.dataLt q.1.2 p.1.2) = (!W.dataLt (toPy q.2) (toPy p.2))
  rw [h1, h2]
theorem srt_facts {xs : List D} (h : srtOk xs = true) : (∀ x, x ∈ xs → okD x = true) ∧ W.AllAlike (xs.map toPy) ∧ W.Sortable (xs.map toPy) ∧ ∀ d, d ∈ xs.map toPy → d.depth ≤ 64 := by
  unfold srtOk at h
  rw [Bool.and_eq_true, Bool.and_eq_true] at h
  have h1 : ∀ x, x ∈ xs → okD x = true := fun x hx => List.all_eq_true.mp h.1 x hx
  refine ⟨h1, fun d hd d' hd' => List.all_eq_true.mp (List.all_eq_true.mp h.2.1 d hd) d' hd', ?_, fun d hd => ?_⟩
  · rcases Bool.or_eq_true_iff.mp h.2.2 with z | z
    · refine .inl fun d hd => ?_
      have := List.all_eq_true.mp z d hd
      unfold isTupC at this
      split at this
      · exact ⟨_, _, rfl⟩
      · cases this
    · refine .inr fun d hd => ?_
      have := List.all_eq_true.mp z d hd
      unfold notTN at this
      split at this
      · cases this
      · cases this
      · rename_i n1 n2
        exact ⟨n1, n2⟩
  · obtain ⟨x, hx, rfl⟩ := List.mem_map.mp hd
    have o := h1 x hx
    unfold okD at o
    rw [Bool.and_eq_true, decide_eq_true_eq] at o
    rw [dep_toPy x o.1]; exact o.2
end
theorem opA_sorted {K : PySem.W.Frag} (hp : Bool) : OpA K (rSorted K) (sortedOp hp) := by
  intro W xs us sg H Q o
  replace o := o.one
  obtain ⟨mu, Z, h, sr, rp, o⟩ := o
  unfold sortedOp at o
  split at o
  · rename_i x
    split at o
    · rename_i ys ey
      split at o
      · rename_i hs
        cases rp with
        | cons r rp =>
          cases rp
          obtain ⟨vs, hc, rv, l⟩ := sr.col r ey
          obtain ⟨f1, f2, f3, f4⟩ := srt_facts hs
          exact ⟨_, vs, _, rfl, hc, each_dp sr.zin rv f1, f2, f3, f4, fun p hp => sr.newL (sort_reps rv) (by unfold sortD; rw [List.length_mergeSort]; exact l) hp o⟩
      · exact o.elim
    · exact o.elim
  · exact o.elim
theorem se_sorted {W : WXx} {X : Cx} {e : Expr} {fr : AM} {p pos : Pos} (hp : Bool) (hc : X.calm = true) (hu : X.A.units + 66 < cLine) (hg : Gl X "sorted") (hm : X.mg "sorted" = none) (ha : SA W X [e] fr)
    (he : starEach [e] X.env = (false, eval e X.env) :: starEach [] X.env := by rfl) (hpl : (backTo pos (starEach [] X.env)).any (·.1) = false := by rfl) : SE W X (.Call (.Name "sorted" p) [e] [] pos) (mApp (sortedOp hp) fr) :=
  se_callB (cr_sorted hc hu) (opA_sorted hp) hg hm rfl ha (by decide) (by decide) he hpl
end TB
end

section
set_option Elab.async false
set_option linter.all false
set_option maxRecDepth 100000
set_option autoImplicit false
set_option maxHeartbeats 1000000
/-! TB17: dicts by comprehension, keys numbers or texts. -/
namespace TB
open PySem PySem.Spec PyProof.Rows L2
variable [LC] [LT]

def putD (ks : List (Key × D)) (k : Key) (d : D) : List (Key × D) :=
  if (ks.any fun kv => decide (kv.1 = k)) = true then ks.map (fun kv => if kv.1 = k then (kv.1, d) else kv) else ks ++ [(k, d)]
def mkC (ks : List (Key × D)) (h : Hh) : Res D := .ok (.ref h.length) (h ++ [.dic ks])
section
variable {K : PySem.W.Frag} {mu : List Addr} {Z H : Hp}
theorem any_keys {α β : Type} {k : Key} : ∀ {ks : List (Key × α)} {ls : List (Key × β)}, ks.map (·.1) = ls.map (·.1) → (ks.any fun kv => decide (kv.1 = k)) = ls.any fun kv => decide (kv.1 = k)
  | [], [], _ => rfl
  | [], _ :: _, e => by simp at e
  | _ :: _, [], e => by simp at e
  | a :: ks, b :: ls, e => by
    simp only [List.map_cons, List.cons.injEq] at e
    simp only [List.any_cons, e.1, any_keys e.2]
theorem map_keys {α : Type} {k : Key} {d : α} : ∀ (ks : List (Key × α)), (ks.map (fun kv => if kv.1 = k then (kv.1, d) else kv)).map (·.1) = ks.map (·.1)
  | [] => rfl
  | a :: ks => by
    simp only [List.map_cons, map_keys ks]
    congr 1
    split <;> rfl
theorem put_keys {k : Key} {d : D} {v : V} {ks : List (Key × D)} {kvs : List (Key × V)} (e : ks.map (·.1) = kvs.map (·.1)) : (putD ks k d).map (·.1) = (putK kvs k v).map (·.1) := by
  unfold putD putK
  rw [any_keys e]
  split
  · rw [map_keys, map_keys, e]
  · simp [e]
theorem put_vals {k : Key} {d : D} {v : V} (r : Rep K mu Z d v) : ∀ {ks : List (Key × D)} {kvs : List (Key × V)}, ks.map (·.1) = kvs.map (·.1) → Reps K mu Z (ks.map (·.2)) (kvs.map (·.2)) →
    Reps K mu Z ((ks.map (fun kv => if kv.1 = k then (kv.1, d) else kv)).map (·.2)) ((kvs.map (fun kv => if kv.1 = k then (kv.1, v) else kv)).map (·.2))
  | [], [], _, _ => .nil
  | [], _ :: _, e, _ => by simp at e
  | _ :: _, [], e, _ => by simp at e
  | a :: ks, b :: kvs, e, rp => by
    simp only [List.map_cons, List.cons.injEq] at e
    simp only [List.map_cons] at rp ⊢
    cases rp with
    | cons r1 rs =>
      refine .cons ?_ (put_vals r e.2 rs)
      rw [e.1]
      split
      · exact r
      · exact r1
theorem put_reps {k : Key} {d : D} {v : V} (r : Rep K mu Z d v) {ks : List (Key × D)} {kvs : List (Key × V)} (e : ks.map (·.1) = kvs.map (·.1)) (rp : Reps K mu Z (ks.map (·.2)) (kvs.map (·.2))) : Reps K mu Z ((putD ks k d).map (·.2)) ((putK kvs k v).map (·.2)) := by
  unfold putD putK
  rw [any_keys e]
  split
  · exact put_vals r e rp
  · rw [List.map_append, List.map_append]
    exact rp.append (.cons r .nil)
theorem putD_len {k : Key} {d : D} (ks : List (Key × D)) : (putD ks k d).length ≤ ks.length + 1 := by
  unfold putD
  split
  · rw [List.length_map]; omega
  · simp
theorem putD_ok {k : Key} {d : D} {ks : List (Key × D)} (ok : ∀ k, k ∈ ks.map (·.1) → KOk k) (hk : KOk k) : ∀ k', k' ∈ (putD ks k d).map (·.1) → KOk k' := fun k' hm => by
  unfold putD at hm
  split at hm
  · rw [map_keys] at hm; exact ok k' hm
  · rw [List.map_append] at hm
    rcases List.mem_append.mp hm with q | q
    · exact ok k' q
    · simp at q; rw [q]; exact hk
theorem keyOf_ok {d : D} {v : V} {k : Key} (r : Rep K mu Z d v) (e : keyOf d = some k) : KOk k := by
  cases d <;> simp [keyOf] at e
  · subst e; trivial
  · subst e
    cases r with
    | str h => exact h
end
open Classical in
noncomputable def dcL (g : GM) (ft : TM) (fk fv : EM) (own : List Nat) (lk : Lk) (s : Sl) : List D → List (Key × D) → Hh → Res (List (Key × D))
  | [], acc, h => if lockOk lk h then .ok acc h else .bad
  | x :: xs, acc, h => if lockOk lk h then bnd (g x (wip s own) h) fun s1 h1 => bnd (ft s1 h1) fun b h2 => if b = true then bnd (fk s1 h2) fun y h3 => bnd (fv s1 h3) fun z h4 => (match keyOf y with
      | some k => dcL g ft fk fv own lk s xs (putD acc k z) h4
      | none => .bad) else dcL g ft fk fv own lk s xs acc h2 else .bad
noncomputable def mDc (im : IM) (g : GM) (ft : TM) (fk fv : EM) (own : List Nat) : EM := fun s h => (im s h).bind fun p h1 => (dcL g ft fk fv own p.2 s p.1 [] h1).bind fun ks h2 => mkC ks h2
section
variable {K : PySem.W.Frag} {mu mu' mu1 : List Addr} {Z Z' Z1 H H' H1 : Hp} {h h' : Hh} {Dd : Addr} {o : HO}
/-- an untracked object becomes a cell -/
theorem SR.mkOb (sr : SR K mu Z H h) (p : Stp mu1 Z1 H1 mu Z H) (hm : Dd ∉ mu) (hz : Z Dd = none) (hn : H1 Dd = none) (ob : Ob) (r : ObRep K (mu ++ [Dd]) Z H Dd ob) : SR K (mu ++ [Dd]) Z H (h ++ [ob]) ∧ Stp mu1 Z1 H1 (mu ++ [Dd]) Z H := by
  have pg := pre_get (mu := mu) (mu' := mu ++ [Dd]) ⟨[Dd], rfl⟩
  constructor
  · refine ⟨sr.zin, by simp [sr.len], ?_, fun a ha => ?_, fun n ob' a e1 e2 => ?_, sr.tb⟩
    · rw [List.nodup_append]
      refine ⟨sr.nd, by simp, fun a ha b hb e => ?_⟩
      simp at hb; subst hb; subst e; exact hm ha
    · simp at ha
      rcases ha with ha | ha
      · exact sr.sep a ha
      · rw [ha]; exact hz
    · by_cases hn' : n < h.length
      · rw [List.getElem?_append_left hn'] at e1
        rw [List.getElem?_append_left (by rw [sr.len]; exact hn')] at e2
        exact (sr.cell n ob' a e1 e2).mono pg (Sub.refl _) fun q e => e
      · have : n = h.length := by
          have := (List.getElem?_eq_some_iff.mp e1).1
          simp at this; omega
        subst this
        rw [List.getElem?_append_right (Nat.le_refl _)] at e1
        simp at e1; subst e1
        rw [← sr.len, List.getElem?_append_right (Nat.le_refl _)] at e2
        simp at e2; subst e2
        exact r
  · obtain ⟨nu, e⟩ := p.pre
    refine ⟨⟨nu ++ [Dd], by rw [e, List.append_assoc]⟩, p.zm, p.fr, fun a ha => ?_, p.nz, p.al⟩
    simp at ha
    rcases ha with ha | ha
    · exact p.nm a ha
    · rw [ha]; exact .inr hn
end
section
variable {W : WXx} {X : Cx} {kx vx tg iter : Expr} {ifs : List Expr} {scope : Scope} {own : List (Str × Nat)} {pos : Pos} {im : IM} {g : GM} {ft : TM} {fk fv : EM}
theorem dc_step {K : PySem.W.Frag} {vs : List Nat} {sg : L2.St} {H : Hp} {Q : VK} (o : tE K W (mDc im g ft fk fv vs) sg H Q) : tDc (tI K W im) (tGO K g vs) (tT K WF ft) (tE K WF fk) (tE K WF fv) vs sg H Q := by
  obtain ⟨mu, Z, h, s, sr, sl, _, o⟩ := o
  refine ⟨mu, Z, h, s, sr, sl, ?_⟩
  unfold mDc at o
  cases ei : im s h with
  | ex x h1 => simp only [ei, Res.bind_ex] at o; exact o
  | bad => simp only [ei, Res.bind_bad] at o; exact o.elim
  | ok p h1 =>
    simp only [ei, Res.bind_ok] at o
    intro mu1 Z1 H1 sr1 p1 J wk Dd hD
    have o1 := Out.mono p1 o fun _ _ _ _ _ _ q => q
    obtain ⟨f1, f2⟩ := sr1.fresh hD
    refine ⟨fun i m H => i ≤ p.1.length ∧ m = p.1.length - i ∧ ∃ mu Z h acc kvs, SR K mu Z H h ∧ Stp mu1 Z1 H1 mu Z H ∧ Dd ∉ mu ∧ Z Dd = none ∧ H Dd = some (.dK kvs) ∧ acc.map (·.1) = kvs.map (·.1) ∧ (∀ k, k ∈ acc.map (·.1) → KOk k) ∧ Reps K mu Z (acc.map (·.2)) (kvs.map (·.2)) ∧ acc.length ≤ i ∧
      Out K mu1 Z1 H1 ((dcL g ft fk fv vs p.2 s (p.1.drop i) acc h).bind fun ks h2 => mkC ks h2) (fun c d H' => W c d sg H') fun v mu' Z' H' _ => ∀ u, Rep K mu' Z' v u → Q u H', ⟨p.1.length, Nat.zero_le _, by simp, mu1, Z1, h1, [], [], sr1.updF f1 f2 (.non hD) _, (Stp.refl _ _ _).updF hD _, f1, f2, upd_same, rfl, (fun _ z => absurd z (by simp)), .nil, Nat.le_refl _, o1⟩, ?_⟩
    rintro i m H2 ⟨hi, rfl, mu2, Z2, h2, acc, kvs, sr2, p2, d1, d2, d3, ek, ok, rp, hl, o2⟩
    by_cases hlt : i < p.1.length
    · right
      have ed : p.1.drop i = p.1[i] :: p.1.drop (i + 1) := List.drop_eq_getElem_cons hlt
      rw [ed] at o2
      simp only [dcL] at o2
      by_cases hlk : lockOk p.2 h2
      · rw [if_pos hlk] at o2
        refine ⟨wk.go mu2 Z2 H2 h2 i sr2 p2.pre p2.zm hlk hlt, fun H => ∃ mu Z h acc kvs, SR K mu Z H h ∧ Stp mu1 Z1 H1 mu Z H ∧ Dd ∉ mu ∧ Z Dd = none ∧ H Dd = some (.dK kvs) ∧ acc.map (·.1) = kvs.map (·.1) ∧ (∀ k, k ∈ acc.map (·.1) → KOk k) ∧ Reps K mu Z (acc.map (·.2)) (kvs.map (·.2)) ∧ acc.length ≤ i + 1 ∧
          Out K mu1 Z1 H1 ((dcL g ft fk fv vs p.2 s (p.1.drop (i + 1)) acc h).bind fun ks h2 => mkC ks h2) (fun c d H' => W c d sg H') fun v mu' Z' H' _ => ∀ u, Rep K mu' Z' v u → Q u H', fun H' q => ⟨p.1.length - (i + 1), by omega, hlt, rfl, q⟩, fun x H3 y => ?_⟩
        obtain ⟨Z3, sr3, p3, d, ed3, r3⟩ := wk.yl mu2 Z2 H2 h2 i x H3 sr2 p2.pre p2.zm hlk hlt y
        rw [List.getElem?_eq_getElem hlt] at ed3
        cases ed3
        obtain ⟨d1, d2, d3⟩ := p3.keepD d1 d2 d3
        have p13 := p2.trans p3
        have rp := p3.reps rp
        have sl3 := ((sl.mono p1).mono p13).wip vs
        refine ⟨mu2, Z3, h2, wip s vs, p.1[i], sr3, sl3, r3, ?_⟩
        cases eg : g p.1[i] (wip s vs) h2 with
        | ex x h1 => simp only [eg, bnd, Res.bind_bad] at o2; exact o2.elim
        | bad => simp only [eg, bnd, Res.bind_bad] at o2; exact o2.elim
        | ok s4 h4 =>
          simp only [eg, bnd] at o2
          intro mu4 Z4 H4 sr4 p4 sg4 sl4 w4
          obtain ⟨d1, d2, d3⟩ := p4.keepD d1 d2 d3
          have p14 := p13.trans p4
          have rp := p4.reps rp
          refine ⟨w4.trans wipe_wipe, mu4, Z4, h4, s4, sr4, sl4, ?_⟩
          cases et : ft s4 h4 with
          | ex x h1 => simp only [et, Res.bind_bad] at o2; exact o2.elim
          | bad => simp only [et, Res.bind_bad] at o2; exact o2.elim
          | ok b h5 =>
            simp only [et] at o2
            intro mu5 Z5 H5 sr5 p5
            obtain ⟨d1, d2, d3⟩ := p5.keepD d1 d2 d3
            have p15 := p14.trans p5
            have rp := p5.reps rp
            cases b with
            | false =>
              rw [if_neg Bool.false_ne_true] at o2 ⊢
              exact ⟨mu5, Z5, h5, acc, kvs, sr5, p15, d1, d2, d3, ek, ok, rp, by omega, o2⟩
            | true =>
              rw [if_pos rfl] at o2 ⊢
              refine ⟨mu5, Z5, h5, s4, sr5, sl4.mono p5, .nil, ?_⟩
              cases ee : fk s4 h5 with
              | ex x h1 => simp only [ee, Res.bind_bad] at o2; exact o2.elim
              | bad => simp only [ee, Res.bind_bad] at o2; exact o2.elim
              | ok yk h6 =>
                simp only [ee] at o2
                intro mu6 Z6 H6 sr6 p6 uk ruk
                obtain ⟨d1, d2, d3⟩ := p6.keepD d1 d2 d3
                have p16 := p15.trans p6
                have rp := p6.reps rp
                refine ⟨mu6, Z6, h6, s4, sr6, (sl4.mono p5).mono p6, .nil, ?_⟩
                cases ev : fv s4 h6 with
                | ex x h1 => simp only [ev, Res.bind_bad] at o2; exact o2.elim
                | bad => simp only [ev, Res.bind_bad] at o2; exact o2.elim
                | ok z h7 =>
                  simp only [ev] at o2
                  intro mu7 Z7 H7 sr7 p7 uz ruz
                  obtain ⟨d1, d2, d3⟩ := p7.keepD d1 d2 d3
                  have p17 := p16.trans p7
                  have rp := p7.reps rp
                  split at o2
                  · rename_i k hk
                    refine ⟨kvs, k, keyOf_rep ruk hk, d3, ?_, mu7, Z7, h7, putD acc k z, putK kvs k uz, sr7.updF d1 d2 (.som d3) _, p17.updF hD _, d1, d2, upd_same, put_keys ek, putD_ok ok (keyOf_ok ruk hk), put_reps ruz ek rp, ?_, o2⟩
                    · have e := congrArg List.length ek
                      rw [List.length_map, List.length_map] at e
                      have := wk.len
                      omega
                    · have := putD_len (k := k) (d := z) acc
                      omega
                  · exact o2.elim
      · rw [if_neg hlk] at o2
        exact o2.elim
    · left
      have hi2 : i = p.1.length := by omega
      subst hi2
      rw [List.drop_length] at o2
      simp only [dcL] at o2
      by_cases hlk : lockOk p.2 h2
      · rw [if_pos hlk] at o2
        refine ⟨wk.st mu2 Z2 H2 h2 sr2 p2.pre p2.zm hlk, ?_⟩
        have hz := Nat.le_trans hl wk.len
        obtain ⟨q1, q2⟩ := sr2.mkOb p2 d1 d2 hD (.dic acc) ⟨kvs, d3, ek, ⟨ok, hz⟩, rp.mono (pre_get ⟨[Dd], rfl⟩) (Sub.refl _)⟩
        exact o2 _ _ _ q1 q2 _ (.ref (by rw [← sr2.len]; simp))
      · rw [if_neg hlk] at o2
        exact o2.elim
theorem se_dc (hc : X.calm = true) (hN : X.N.Nodup) (hi : SI W X tg iter im) (ok : BlkOk X.N X.env.scope scope own)
    (hg : ∀ (s : Shared) (H : Hp) (C : Addr) (cl : List (Str × Addr)) (fp : List Addr), SGO (X.blk s H scope (compEnvC scope cl C X.env) fp) tg g (own.map fun p : Str × Nat => p.2))
    (ht : ∀ (s : Shared) (H : Hp) (C : Addr) (cl : List (Str × Addr)) (fp : List Addr), STs WF (X.blk s H scope (compEnvC scope cl C X.env) fp) ifs ft)
    (hk : ∀ (s : Shared) (H : Hp) (C : Addr) (cl : List (Str × Addr)) (fp : List Addr), SE WF (X.blk s H scope (compEnvC scope cl C X.env) fp) kx fk)
    (he : ∀ (s : Shared) (H : Hp) (C : Addr) (cl : List (Str × Addr)) (fp : List Addr), SE WF (X.blk s H scope (compEnvC scope cl C X.env) fp) vx fv) (hs : ∀ x, foldedSetIterable iter X.env x = pure x := by intro _; rfl) :
    SE W X (.DictComp kx vx [⟨tg, iter, ifs, 0⟩] scope pos) (mDc im g ft fk fv (own.map fun p : Str × Nat => p.2)) :=
  PE.imp (pe_dc (g := tGO X.K g (own.map fun p : Str × Nat => p.2)) (tt := tT X.K WF ft) (tk := tE X.K WF fk) (tv := tE X.K WF fv) hc hN hi ok hg ht hk he hs) fun sg H Q o => dc_step o
end
end TB
end

section
set_option Elab.async false
set_option linter.all false
set_option maxRecDepth 100000
set_option autoImplicit false
set_option maxHeartbeats 1000000
/-! TB18: enumerate over lists and tuples, the pairs known to the object. -/
namespace TB
open PySem PySem.Spec PyProof.Rows L2
variable [LC] [LT]

/-- a source that is drawn from: how it stands in the tracked heap, in the heap, its iterator -/
structure Src (K : PySem.W.Frag) (a : Addr) (Sq : Hp → List V → Prop) (Is : Heap → Array Value → Prop) (Itr : Addr → Heap → Nat → Prop) : Prop where
  at_ : ∀ (X : Cx), X.K = K → ∀ (pins : List (Addr × Obj)) (σ : L2.St) (H : Hp) (s : Shared) (xs : List V), Inv X pins σ H s → Sq H xs → ∃ its : List Value, Vals xs its ∧ Is s.heap its.toArray
  one : ∀ (X : Cx), X.K = K → ∀ (pins : List (Addr × Obj)) (σ : L2.St) (H : Hp) (s : Shared) (xs ys : List V), Inv X pins σ H s → Sq H xs → Sq H ys → xs = ys
  ne : ∀ h items o, Is h items → h.get? a = some o → o.cls ≠ .type "enumerate"
  itob : ∀ it h i, Itr it h i → ∃ o, h.get? it = some o ∧ ∀ v, o.data ≠ .cell v
  itat : ∀ it h h' i, Itr it h i → (∀ o, h.get? it = some o → h'.get? it = some o) → Itr it h' i
  dr : ∀ (P : Program) (w : World) (A : Around) (it : Addr) (items : Array Value), A.handled = none → a ≠ it → Draws P w A it [it, a] items.size (fun i v => items[i]? = some v) (fun i h => Itr it h i ∧ Is h items)
  itne : ∀ it h i items, Itr it h i → Is h items → a ≠ it
def IteS (Sq : Hp → List V → Prop) : It :=
  ⟨fun i H => ∃ (xs : List V) (x : V), Sq H xs ∧ xs[i]? = some x, fun i H v H' => ∃ T o x, v = .ref T ∧ H T = none ∧ o.dict = none ∧ H' = upd H T (.frz o (.tup [.int (i : Nat), x])) ∧ ∀ xs, Sq H xs → xs[i]? = some x, fun i H => ∃ xs : List V, Sq H xs ∧ xs.length = i⟩
theorem turn_enumS {P : Program} {w : World} {K : PySem.W.Frag} {elts : List Expr} {kk : Nat} {tpos : Pos} {a : Addr} {Sq : Hp → List V → Prop} {Is : Heap → Array Value → Prop} {Itr : Addr → Heap → Nat → Prop} (S : Src K a Sq Is Itr) (e it : Addr) :
    Turn P w K (.Tuple elts kk tpos) (IteS Sq) [e, it] e (fun i h => (∃ old, IsEnum h e it ((i : Nat) : Int) old) ∧ Itr it h i ∧ e ≠ it) where
  mem := by simp
  obj := fun i h st b hb => by
    obtain ⟨⟨old, he⟩, hi, _⟩ := st
    have e' : b = e ∨ b = it := by simpa using hb
    rcases e' with z | z
    · rw [z]; exact ⟨_, he, fun v q => nomatch q⟩
    · rw [z]; exact S.itob _ _ _ hi
  keep := fun i h h' st k => let ⟨⟨old, he⟩, hi, hne⟩ := st; ⟨⟨old, k e (by simp) _ he⟩, S.itat _ _ _ _ hi fun o q => k it (by simp) o q, hne⟩
  item := by
    intro X hP hw hK hc i pins s σ H E I hf st hg
    subst hP hw
    obtain ⟨⟨old, he⟩, hit, hne⟩ := st
    obtain ⟨xs, x, hq, hx⟩ := hg
    obtain ⟨its, rv, hs⟩ := S.at_ X hK pins σ H s xs I hq
    obtain ⟨u, hu, ru⟩ := rv.get hx
    have hel : e < s.heap.objs.size := Heap.lt_size he
    have hil : it < s.heap.objs.size := by obtain ⟨_, q, _⟩ := S.itob _ _ _ hit; exact Heap.lt_size q
    have hai : a ≠ it := S.itne _ _ _ _ hit hs
    have hlt : i < its.toArray.size := by
      have := (List.getElem?_eq_some_iff.mp hu).1
      simpa using this
    have hea : e ∉ [it, a] := fun z => by
      have e' : e = it ∨ e = a := by simpa using z
      rcases e' with z | z
      · exact hne z
      · exact S.ne _ _ _ hs (by rw [← z]; exact he) rfl
    refine wpAny_pyNext_enum_itemD (S.dr X.prog X.w X.A.in1 it its.toArray (I.ok.hd hc) hai) he ⟨hit, hs⟩ hlt hne hea fun x' h' tk hPx ho hst hT hsz hk => ?_
    have ex : x' = u := by
      have : its.toArray[i]? = some u := by simpa using hu
      rw [hPx] at this; exact Option.some.inj this
    subst ex
    refine ⟨_, rfl, wpAny_letOwnedTupleGo_enum (s := { s with heap := h', toks := tk + 1 }) ho fun h'' he' sb => ?_⟩
    have hT2 : h''.get? s.heap.objs.size = some { cls := .type "tuple", data := .seq #[.int i tk, x'] } := (sb.2 _ (Nat.ne_of_gt hel)).trans hT
    have new : ObjOk X.prog X.w (upd H s.heap.objs.size (.frz { cls := .type "tuple", data := .seq #[.int i tk, x'] } (.tup [.int (i : Nat), x]))) h'' s.heap.objs.size (.frz { cls := .type "tuple", data := .seq #[.int i tk, x'] } (.tup [.int (i : Nat), x])) :=
      ⟨hT2, ⟨by show 2 ≤ sizeLine; decide, [.int i tk, x'], .cons ⟨_, rfl⟩ (.cons ru .nil), ⟨_, hT2, rfl, _, rfl⟩⟩⟩
    have I1 : Inv X pins σ (upd H s.heap.objs.size (.frz { cls := .type "tuple", data := .seq #[.int i tk, x'] } (.tup [.int (i : Nat), x]))) { s with heap := h'', toks := tk + 1 } :=
      I.turnedNew (ch := [e, it]) (fun b ob hb q => (sb.2 b (fun z => hb (by simp [z]))).trans (hk b ob (fun z => hb (by simp [z])) (fun z => hb (by simp [z])) q)) hf (Nat.le_refl _) new
    refine ⟨.ref s.heap.objs.size, _, I1, rfl, ⟨_, _, x, rfl, I.hok.fresh (Nat.le_refl _), rfl, rfl, fun ys hy => by rw [S.one X hK pins σ H s _ _ I hy hq]; exact hx⟩, ⟨⟨x', ?_⟩, S.itat _ _ _ _ hst.1 fun o q => (sb.2 it (Ne.symm hne)).trans q, hne⟩, fun b hb => ?_⟩
    · have e1 : ((i + 1 : Nat) : Int) = (i : Int) + 1 := by omega
      rw [e1]; exact he'
    · have hb' : b < s.heap.objs.size := by
        have e' : b = e ∨ b = it := by simpa using hb
        rcases e' with z | z
        · rw [z]; exact hel
        · rw [z]; exact hil
      rw [upd_ne (Nat.ne_of_lt hb')]
      exact (hf b hb).1
  done := by
    intro X hP hw hK hc i pins s σ H E I hf st hg
    subst hP hw
    obtain ⟨⟨old, he⟩, hit, hne⟩ := st
    obtain ⟨xs, hq, hx⟩ := hg
    obtain ⟨its, rv, hs⟩ := S.at_ X hK pins σ H s xs I hq
    obtain ⟨f0, f1, f2, f3, f4, f5⟩ := hf it (by simp)
    have hai : a ≠ it := S.itne _ _ _ _ hit hs
    have e1 : its.toArray.size = i := by rw [List.size_toArray, ← rv.length]; exact hx
    have D := S.dr X.prog X.w X.A.in1 it its.toArray (I.ok.hd hc) hai
    rw [e1] at D
    exact wpAny_pyNext_enum_endD D he ⟨hit, hs⟩ fun h' eb => ⟨rfl, I.turned (t' := s.toks) (fun b o hb q => eb b o hb q) f0 f1 f3 f4 f5⟩
  self := fun A i s Q E st h => let ⟨⟨_, he⟩, _⟩ := st; wpAny_pyIter_enum he h

theorem src_list (K : PySem.W.Frag) (a : Addr) : Src K a (fun H xs => SqL K H a xs) (fun h items => h.IsList a items) (fun it h i => h.IsListIter it a i) where
  at_ := fun X hK pins σ H s xs I q => by
    subst hK
    obtain ⟨its, rv, p, hz⟩ := I.list q
    exact ⟨its, rv, p.isList⟩
  one := fun X hK pins σ H s xs ys I q r => by subst hK; exact I.list_inj q r
  ne := fun h items o q e c => by
    obtain ⟨o', e', c', _⟩ := q
    rw [e] at e'; cases e'
    rw [c] at c'; exact absurd c' (by decide)
  itob := fun it h i q => by
    obtain ⟨o, e, _, d⟩ := q
    exact ⟨o, e, fun v z => by rw [d] at z; cases z⟩
  itat := fun it h h' i q k => q.at k
  dr := fun P w A it items hh hne => Draws.list hh it a hne items
  itne := fun it h i items q r z => by
    obtain ⟨o, e, c, _⟩ := q
    obtain ⟨o', e', c', _⟩ := r
    rw [z, e] at e'; cases e'
    rw [c] at c'; exact absurd c' (by decide)
theorem src_tup (K : PySem.W.Frag) (a : Addr) : Src K a (fun H xs => SqT K H a xs) (fun h items => h.IsTuple a items) (fun it h i => h.IsTupleIter it a i) where
  at_ := fun X hK pins σ H s xs I q => by
    subst hK
    obtain ⟨its, rv, p, hz⟩ := I.tuple q
    exact ⟨its, rv, p⟩
  one := fun X hK pins σ H s xs ys I q r => by subst hK; exact I.tuple_inj q r
  ne := fun h items o q e c => by
    obtain ⟨o', e', c', _⟩ := q
    rw [e] at e'; cases e'
    rw [c] at c'; exact absurd c' (by decide)
  itob := fun it h i q => by
    obtain ⟨o, e, _, d⟩ := q
    exact ⟨o, e, fun v z => by rw [d] at z; cases z⟩
  itat := fun it h h' i q k => q.at k
  dr := fun P w A it items hh hne => Draws.tuple hh it a hne items
  itne := fun it h i items q r z => by
    obtain ⟨o, e, c, _⟩ := q
    obtain ⟨o', e', c', _⟩ := r
    rw [z, e] at e'; cases e'
    rw [c] at c'; exact absurd c' (by decide)
set_option maxHeartbeats 4000000 in
theorem meets_enum1 {v : Value} {o : Obj} {H : Heap → Prop} (B : Begins v o H) :
    Meets (Builtin.«enumerate.__new__» ⟨[.type "enumerate", v], []⟩) (fun _ R s => H s.heap ∧
      R (.ok (.ret (.ref (s.heap.push o).objs.size))) { s with heap := (s.heap.push o).push { cls := .type "enumerate", data := .fields #[.none, .bool false, .ref s.heap.objs.size, rawInt 0, .none, .none] } }) :=
  .of_wp fun prog w A R s h => by
    obtain ⟨hp, g, d, tk, os⟩ := s
    obtain ⟨h1, h⟩ := h
    have hsub := sub_enumerate
    have begins : ∀ {A' : Around} {E : Value → Shared → Prop} {Q : Value → Shared → Prop}, Q (.ref hp.objs.size) ⟨hp.push o, g, d, tk, os⟩ → wpAny (model prog w) A' (pyIter v) Q E ⟨hp, g, d, tk, os⟩ := fun q => B.iter prog w _ _ ⟨hp, g, d, tk, os⟩ _ h1 q
    wp_walk using begins
    refine wpAny_stack_any fun st => wpAny_pure ?_
    split
    · rename_i c _ _ _ _ _
      cases (c == Value.type "enumerate") <;> (wp_walk using begins; exact ⟨_, rfl, h⟩)
    · wp_walk using begins
      exact ⟨_, rfl, h⟩
section
variable {prog : Program} {w : World} {A : Around} {E : Value → Shared → Prop} {s : Shared}
theorem call_enum1 {v : Value} {o : Obj} {H : Heap → Prop} {Q : Value → Shared → Prop} (B : Begins v o H) (h1 : H s.heap)
    (h : ∀ h', IsEnum h' (s.heap.objs.size + 1) s.heap.objs.size 0 .none → h'.get? s.heap.objs.size = some o → (∀ b u, s.heap.get? b = some u → h'.get? b = some u) → Q (.ref (s.heap.objs.size + 1)) { s with heap := h' }) :
    wpAny (model prog w) A (call (.type "enumerate") [v]) Q E s := by
  refine callType_new F.called_enumerate (by decide) (F.typeCall_enumerate_1 _) (F.newCall_enumerate_1 _) (fun obj => F.args_object_init_2 obj _) F.entry_enumerate_new (meets_enum1 B) ⟨h1, ?_⟩
  have hz : (s.heap.push o).objs.size = s.heap.objs.size + 1 := Heap.size_push ..
  show _ ∧ _
  rw [hz]
  have he : IsEnum ((s.heap.push o).push { cls := .type "enumerate", data := .fields #[.none, .bool false, .ref s.heap.objs.size, rawInt 0, .none, .none] }) (s.heap.objs.size + 1) s.heap.objs.size 0 .none := by
    have q := Heap.get?_push_size (s.heap.push o) (o := { cls := .type "enumerate", data := .fields #[.none, .bool false, .ref s.heap.objs.size, rawInt 0, .none, .none] }) rfl
    rw [hz] at q; exact q
  exact ⟨⟨_, he, rfl⟩, h _ he (Heap.get?_push_of_some _ (Heap.get?_push_size _ B.free)) fun b u x => Heap.get?_push_of_some _ (Heap.get?_push_of_some _ x)⟩
end
def iEnumA (K : PySem.W.Frag) (ta : TA) : TI := fun σ H R => ta σ H fun vs H1 => (∃ a xs, vs = [.ref a] ∧ SqL K H1 a xs ∧ R (IteS fun H xs => SqL K H a xs) H1) ∨ ∃ a xs, vs = [.ref a] ∧ SqT K H1 a xs ∧ R (IteS fun H xs => SqT K H a xs) H1
theorem pi_enumA {X : Cx} {e : Expr} {ta : TA} {p pos tpos : Pos} {elts : List Expr} {kk : Nat} (hg : Gl X "enumerate") (hm : X.mg "enumerate" = none) (ha : PA X [e] ta) (hs : starEach [e] X.env = [(false, eval e X.env)] := by rfl) :
    PI X (.Tuple elts kk tpos) (.Call (.Name "enumerate" p) [e] [] pos) (iEnumA X.K ta) := by
  refine ⟨fun pins s σ H R I h => ?_⟩
  refine Call_ (ld_blt I hg hm boot_enumerate (PyProof.Rows.callWith_type1 (thn (ha.run pos pins s σ H _ I h) fun us s1 ⟨vs, H1, I1, r1, q1⟩ => ?_) hs rfl))
  have fin : ∀ {a : Addr} {Sq : Hp → List V → Prop} {Is : Heap → Array Value → Prop} {Itr : Addr → Heap → Nat → Prop} (S : Src X.K a Sq Is Itr) (o : Obj) (its : List Value) (B : Begins (.ref a) o fun h => Is h its.toArray), Is s1.heap its.toArray →
      (∀ h : Heap, h.get? s1.heap.objs.size = some o → Itr s1.heap.objs.size h 0) → R (IteS Sq) H1 → wpAny (model X.prog X.w) X.A (call (.type "enumerate") [.ref a]) (fun v s2 => wpAny (model X.prog X.w) X.A (pyIter v) (PIE X pins σ (.Tuple elts kk tpos) R) X.xe s2) X.xe s1 := by
    intro a Sq Is Itr S o its B hi hit q
    refine call_enum1 B hi fun h' he ho hk => wpAny_pyIter_enum he ?_
    have I2 : Inv X pins σ H1 { s1 with heap := h' } := I1.kept (t' := s1.toks) hk
    refine ⟨s1.heap.objs.size + 1, [s1.heap.objs.size + 1, s1.heap.objs.size], _, _, H1, rfl, I2, turn_enumS S (s1.heap.objs.size + 1) s1.heap.objs.size, ⟨⟨.none, he⟩, hit h' ho, Nat.succ_ne_self _⟩, fun b hb => ?_, q⟩
    have e' : b = s1.heap.objs.size + 1 ∨ b = s1.heap.objs.size := by simpa using hb
    have hle : s1.heap.objs.size ≤ b := by
      rcases e' with z | z
      · rw [z]; exact Nat.le_add_right _ _
      · rw [z]; exact Nat.le_refl _
    exact I1.fpOk hle (I1.hok.fresh hle)
  rcases q1 with ⟨a, xs, ex, hq, q⟩ | ⟨a, xs, ex, hq, q⟩
  · subst ex
    cases r1 with
    | cons r rr =>
      cases rr
      cases r
      obtain ⟨its, rv, p', hz⟩ := I1.list hq
      exact fin (src_list X.K a) _ its (begins_list a its.toArray) p'.isList (fun h e => ⟨_, e, rfl, rfl⟩) q
  · subst ex
    cases r1 with
    | cons r rr =>
      cases rr
      cases r
      obtain ⟨its, rv, p', hz⟩ := I1.tuple hq
      exact fin (src_tup X.K a) _ its (begins_tuple a its.toArray) p' (fun h e => ⟨_, e, rfl, rfl⟩) q

/-! ### over pure values -/
def enumD (i : Nat) : List D → List D
  | [] => []
  | x :: r => .tup [.int (i : Nat), x] :: enumD (i + 1) r
theorem enumD_len : ∀ (xs : List D) (i : Nat), (enumD i xs).length = xs.length
  | [], _ => rfl
  | x :: r, i => by simp [enumD, enumD_len r]
theorem enumD_get : ∀ (xs : List D) (i j : Nat) (d : D), xs[j]? = some d → (enumD i xs)[j]? = some (.tup [.int ((i + j : Nat) : Int), d])
  | [], _, _, _, e => by simp at e
  | x :: r, i, 0, d, e => by simp at e; subst e; rfl
  | x :: r, i, j + 1, d, e => by
    have := enumD_get r (i + 1) j d (by simpa using e)
    rw [show i + (j + 1) = i + 1 + j by omega]
    simpa [enumD] using this
def enumOp (xs : List D) (h : Hh) : Res (List D × Lk) := match xs with
  | [.tup ys] => .ok (enumD 0 ys, none) h
  | [.lst ys] => .ok (enumD 0 ys, none) h
  | [.ref n] => match h[n]? with
    | some (.lst ys) => .ok (enumD 0 ys, some (n, .lst ys)) h
    | _ => .bad
  | _ => .bad
def mEnum (fr : AM) : IM := fun s h => (fr s h).bind enumOp
section
variable {K : PySem.W.Frag} {mu0 : List Addr} {Z0 : Hp}
theorem walked_enum {lk : Lk} {Sq : Hp → List V → Prop} {xs : List D} (ln : xs.length ≤ sizeLine)
    (hq : ∀ mu Z H h, SR K mu Z H h → (∃ nu, mu = mu0 ++ nu) → Sub Z0 Z → lockOk lk h → ∃ vs, Sq H vs ∧ Reps K mu Z xs vs) : Walked K mu0 Z0 lk (IteS Sq) (enumD 0 xs) where
  len := by rw [enumD_len]; exact ln
  go := fun mu Z H h i sr hm hs hl hi => by
    rw [enumD_len] at hi
    obtain ⟨vs, q, r⟩ := hq mu Z H h sr hm hs hl
    exact ⟨vs, vs[i]'(by rw [← r.length]; exact hi), q, by simp⟩
  yl := fun mu Z H h i x H' sr hm hs hl hi y => by
    rw [enumD_len] at hi
    obtain ⟨vs, q, r⟩ := hq mu Z H h sr hm hs hl
    obtain ⟨T, o, x', rfl, hT, hd, rfl, hy⟩ := y
    obtain ⟨d, e1, r1⟩ := r.get' (hy vs q)
    obtain ⟨q1, q2⟩ := sr.addZ hT (.frz o (.tup [.int (i : Nat), x']))
    refine ⟨_, q1, q2, .tup [.int (i : Nat), d], ?_, .tup (.inl ⟨o, upd_same, hd⟩) (.cons (.int _) (.cons (q2.rep r1) .nil)) (by show 2 ≤ sizeLine; decide)⟩
    have := enumD_get xs 0 i d e1
    simpa using this
  st := fun mu Z H h sr hm hs hl => by
    obtain ⟨vs, q, r⟩ := hq mu Z H h sr hm hs hl
    exact ⟨vs, q, by rw [enumD_len, r.length]⟩
end
theorem si_enum {W : WXx} {X : Cx} {e : Expr} {fr : AM} {p pos tpos : Pos} {elts : List Expr} {kk : Nat} (hg : Gl X "enumerate") (hm : X.mg "enumerate" = none) (ha : SA W X [e] fr) (hs : starEach [e] X.env = [(false, eval e X.env)] := by rfl) :
    SI W X (.Tuple elts kk tpos) (.Call (.Name "enumerate" p) [e] [] pos) (mEnum fr) :=
  PI.imp (pi_enumA hg hm ha hs) fun sg H R o => by
    refine tAs.mono (seqAsR o) fun us H1 ⟨xs, q⟩ => ?_
    obtain ⟨mu, Z, h, s, sr, sl, rp, o⟩ := q
    unfold enumOp at o
    split at o
    · cases rp with
      | cons r rp =>
        cases rp
        cases r with
        | tup q rp ln => exact .inr ⟨_, _, rfl, (sr.zin.tupZ q).sq, o mu Z H1 sr (Stp.refl _ _ _) _ (walked_enum ln fun mu' Z' H' h' sr' hm' hs' _ => ⟨_, (sr'.zin.tupZ (hs'.tupZ q)).sq, rp.mono (pre_get hm') hs'⟩)⟩
    · cases rp with
      | cons r rp =>
        cases rp
        cases r with
        | lst q rp ln => exact .inl ⟨_, _, rfl, SqL.of (sr.zin _ _ q), o mu Z H1 sr (Stp.refl _ _ _) _ (walked_enum ln fun mu' Z' H' h' sr' hm' hs' _ => ⟨_, SqL.of (sr'.zin _ _ (hs' _ _ q)), rp.mono (pre_get hm') hs'⟩)⟩
    · rename_i n
      dsimp only at o
      split at o
      · rename_i ys en
        cases rp with
        | cons r rp =>
          cases rp
          obtain ⟨ad, rfl, hm0, ln, vs, e2, r2⟩ := sr.cellAt en r
          refine .inl ⟨_, _, rfl, SqL.of e2, o mu Z H1 sr (Stp.refl _ _ _) _ (walked_enum ln fun mu' Z' H' h' sr' hm' hs' lk => ?_)⟩
          obtain ⟨_, vs', e', r'⟩ := sr'.cell n _ ad lk (pre_get hm' _ _ hm0)
          exact ⟨vs', SqL.of e', r'⟩
      · exact o.elim
    · exact o.elim
end TB
end

section
set_option Elab.async false
set_option linter.all false
set_option maxRecDepth 100000
set_option autoImplicit false
set_option maxHeartbeats 1000000
/-! TB19: sorted(set(xs)) of keys. -/
namespace TB
open PySem PySem.Spec PyProof.Rows L2
variable [LC] [LT]
open Classical

/-- the set at a has at most n keys, those of S -/
def KOf (w : World) (h : Heap) (a : Addr) (S : Key → Bool) (n : Nat) : Prop := ∃ ks, KSet w h a ks ∧ (∀ k, S k = true ↔ k ∈ ks) ∧ ks.length ≤ n
def SetKO (w : World) (a : Addr) (S : Key → Bool) (n : Nat) : HO := .ext fun h => KOf w h a S n
theorem setKO_new {w : World} {P : Program} {H : Hp} {h : Heap} {a : Addr} {S : Key → Bool} {n : Nat} (R : KOf w h a S n) : ObjOk P w H h a (SetKO w a S n) :=
  ⟨R, (let ⟨_, r, _⟩ := R; r.is), fun _ _ ⟨ks, r, q⟩ k => ⟨ks, r.kept k, q⟩⟩
theorem setKO_get {X : Cx} {pins : List (Addr × Obj)} {σ : L2.St} {H : Hp} {s : Shared} {a : Addr} {S : Key → Bool} {n : Nat} (I : Inv X pins σ H s) (ha : H a = some (SetKO X.w a S n)) : KOf X.w s.heap a S n := (I.hok a _ ha).1
theorem keys_are : ∀ {ks : List Key} {its : List Value}, Vals (ks.map kV) its → KeysAre its ks
  | [], _, .nil => .nil
  | k :: ks, _, .cons r rs => by
    refine .cons ?_ (keys_are rs)
    cases k with
    | inl i => obtain ⟨t, rfl⟩ := r; exact keyIs_int i t
    | inr x => obtain ⟨t, rfl⟩ := r; exact keyIs_str x t
def rSetK (K : PySem.W.Frag) (w : World) : List V → Hp → VK → Prop := fun vs H Q => ∃ (a : Addr) (ks : List Key), vs = [.ref a] ∧ (SqL K H a (ks.map kV) ∨ SqT K H a (ks.map kV)) ∧ ks.length ≤ 4000 ∧
  ∀ p n, H p = none → n ≤ ks.length → Q (.ref p) (upd H p (SetKO w p (fun k => decide (k ∈ ks)) n))
section
variable {X : Cx}
theorem cr_setK (hc : X.calm = true) : CallR X (.type "set") (rSetK X.K X.w) := by
  intro pins s σ H vs us Q I r h
  obtain ⟨a, ks, rfl, hs, hl, q⟩ := h
  rw [Vals.ref1 r]
  have room : ks.length + 1 < scanBound := by unfold scanBound; omega
  have fin : ∀ h' tk ls, KSet X.w h' s.heap.objs.size ls → (∀ j, j ∈ ls ↔ j ∈ ks) → ls.length ≤ ks.length → (∀ b o, s.heap.get? b = some o → h'.get? b = some o) → EP X pins σ Q (.ref s.heap.objs.size) { s with heap := h', toks := tk } := fun h' tk ls R mem hcl kp =>
    ⟨.ref s.heap.objs.size, _, I.laid (t' := tk) kp (Nat.le_refl _) (setKO_new (S := fun k => decide (k ∈ ks)) (n := ks.length) ⟨ls, R, fun k => by rw [decide_eq_true_eq, mem k], hcl⟩), rfl, q _ _ (I.hok.fresh (Nat.le_refl _)) (Nat.le_refl _)⟩
  rcases hs with hs | hs
  · obtain ⟨its, rv, p, hz⟩ := I.list hs
    exact call_set_keys ks (I.ok.hd hc) (.inr p.isList) (by simpa using keys_are rv) room fin
  · obtain ⟨its, rv, p, hz⟩ := I.tuple hs
    exact call_set_keys ks (I.ok.hd hc) (.inl p) (by simpa using keys_are rv) room fin
def rSortedK (w : World) : List V → Hp → VK → Prop := fun vs H Q => ∃ a S n, vs = [V.ref a] ∧ H a = some (SetKO w a S n) ∧ n ≤ 4000 ∧
  (∀ L : List Key, (∀ k, k ∈ L ↔ S k = true) → W.AllAlike (L.map fun k => toPy (keyD k)) ∧ W.Sortable (L.map fun k => toPy (keyD k))) ∧
  ∀ (L : List Key) (p : Addr), L.Nodup → (∀ k, k ∈ L ↔ S k = true) → H p = none → Q (.ref p) (upd H p (.lst ((((L.map kV).zip (L.map fun k => toPy (keyD k))).mergeSort leP).map fun z => z.1)))
theorem each_key {K : PySem.W.Frag} {H : Hp} : ∀ L : List Key, W.EachIs (Dp K H) (L.map kV) (L.map fun k => toPy (keyD k))
  | [] => .nil
  | k :: L => by
    refine .cons ?_ (each_key L)
    cases k with
    | inl i => simp only [keyD, toPy]; exact .int i
    | inr x => simp only [keyD, toPy]; exact .str x
theorem vals_keys : ∀ {vs : List Value}, (∀ v ∈ vs, ∃ k, keyIs k v = true) → Vals ((vs.map kfun).map kV) vs
  | [], _ => .nil
  | v :: vs, h => by
    refine .cons ?_ (vals_keys fun u hu => h u (List.mem_cons_of_mem _ hu))
    obtain ⟨k, e⟩ := h v List.mem_cons_self
    show RelV (kV (kfun v)) v
    rw [kfun_is e]
    rcases keyIs_shape e with ⟨i, t, rfl, rfl⟩ | ⟨x, t, rfl, rfl⟩ <;> exact ⟨t, rfl⟩
theorem cr_sortedK (hc : X.calm = true) (hu : X.A.units + 66 < cLine) : CallR X (.builtin "sorted") (rSortedK X.w) := by
  intro pins s σ H vs us Q I r h
  obtain ⟨a, S, n, rfl, ha, hn4, hal, q⟩ := h
  obtain ⟨ls, ⟨o, es, ep, t, ⟨ho, hex, hdt⟩, T, ⟨hf, hr, hl⟩⟩, hm, hn⟩ := setKO_get I ha
  rw [Vals.ref1 r]
  refine Calls.call_function_entry PyProof.Rows.kind_sorted PyProof.Rows.plain_sorted PyProof.Rows.entry_sorted (PyProof.Rows.args_sorted1 _) ?_
  unfold Builtin.«sorted»
  refine wpAny_bind (m := checkCount "sorted" 1 1 _) (wpAny_pure ?_)
  refine wpAny_bind (collect_set (A := X.A.in1) (I.ok.hd hc) ⟨o, ho, hex.1, hdt⟩ hf T.scan hr hl fun s1 vs k1 hz g1 o1 pm => ?_)
  have hvk : ∀ v ∈ vs, ∃ k, keyIs k v = true := fun v hv => by
    obtain ⟨e, he, ev⟩ := List.mem_map.mp (pm.mem_iff.mp hv)
    obtain ⟨k, e1, _⟩ := T.each e he
    exact ⟨k, by rw [← ev]; exact e1⟩
  have pk : (vs.map kfun).Perm ls := by
    have z := pm.map kfun
    rw [List.map_map] at z
    exact z.trans T.perm
  have hL1 : (vs.map kfun).Nodup := pk.nodup_iff.mpr T.once
  have hL2 : ∀ k, k ∈ vs.map kfun ↔ S k = true := fun k => by rw [pk.mem_iff, hm k]
  have hlen : ((vs.map kfun).map kV).length ≤ sizeLine := by
    rw [List.length_map, pk.length_eq, sizeLine_eq]; omega
  have I1 : Inv X pins σ H s1 := by
    have e : s1 = { s with heap := s1.heap, gens := s1.gens, drawn := s1.drawn, toks := s1.toks } := by
      cases s1; cases s; cases o1; rfl
    rw [e]
    exact I.call (ch := []) (Un.kept k1) (I.hok.kept k1) (by rw [g1]; exact I.bare) (fun _ z => nomatch z)
  obtain ⟨ha1, ha2⟩ := hal _ hL2
  refine wpAny_bind (wpAny_mono (sort_run (s := s1) (h' := s1.heap) (tk := s1.toks) hu I1 (vals_keys hvk) (each_key _) ha1 ha2 (fun d hd => ?_) hlen fun p hp => q _ p hL1 hL2 hp) (fun l s2 h1 => ?_) fun _ _ z => z)
  · obtain ⟨k, _, rfl⟩ := List.mem_map.mp hd
    cases k <;> simp [keyD, toPy, PyData.depth]
  · exact wpAny_bind (wpAny_mono h1 (fun _ s3 h2 => wpAny_pure ⟨_, rfl, h2⟩) fun _ _ z => z)
end

/-! ### over pure values -/
def keysAll : List D → Option (List Key)
  | [] => some []
  | x :: r => match keyOf x, keysAll r with
    | some k, some ks => some (k :: ks)
    | _, _ => none
/-- each key once -/
def ddK : List Key → List Key
  | [] => []
  | k :: r => if (r.any fun x => decide (x = k)) = true then ddK r else k :: ddK r
def keyIsI : Key → Bool
  | .inl _ => true
  | .inr _ => false
def sortSetOp (hp : Bool) (xs : List D) (h : Hh) : Res D := match xs with
  | [x] => match sqOf h x with
    | some ys => match keysAll ys with
      | some ks => if (decide (ks.length ≤ 4000) && (ks.all keyIsI || ks.all fun k => !keyIsI k)) = true then mkL hp (sortD ((ddK ks).map keyD)) h else .bad
      | none => .bad
    | none => .bad
  | _ => .bad
theorem any_mem {r : List Key} {k : Key} : (r.any fun x => decide (x = k)) = true ↔ k ∈ r := by
  rw [List.any_eq_true]
  constructor
  · rintro ⟨x, hx, e⟩
    rw [← of_decide_eq_true e]; exact hx
  · intro h
    exact ⟨k, h, decide_eq_true rfl⟩
theorem ddK_mem : ∀ (ks : List Key) (k : Key), k ∈ ddK ks ↔ k ∈ ks
  | [], k => by simp [ddK]
  | a :: r, k => by
    unfold ddK
    split
    · rename_i h
      rw [any_mem] at h
      rw [ddK_mem r, List.mem_cons]
      constructor
      · exact .inr
      · rintro (z | z)
        · rw [z]; exact h
        · exact z
    · simp [ddK_mem r]
theorem ddK_len : ∀ (ks : List Key), (ddK ks).length ≤ ks.length
  | [] => Nat.le_refl _
  | a :: r => by
    have := ddK_len r
    unfold ddK
    split
    · simp; omega
    · simp; omega
theorem ddK_nodup : ∀ (ks : List Key), (ddK ks).Nodup
  | [] => List.nodup_nil
  | a :: r => by
    unfold ddK
    split
    · exact ddK_nodup r
    · rename_i h
      rw [any_mem] at h
      exact List.nodup_cons.mpr ⟨fun z => h ((ddK_mem r a).mp z), ddK_nodup r⟩
theorem keysAll_eq {K : PySem.W.Frag} {mu : List Addr} {Z : Hp} : ∀ {ys : List D} {vs : List V} {ks : List Key}, Reps K mu Z ys vs → keysAll ys = some ks → vs = ks.map kV ∧ ∀ k, k ∈ ks → KOk k
  | [], _, _, .nil, e => by unfold keysAll at e; cases e; exact ⟨rfl, fun _ z => absurd z (by simp)⟩
  | x :: r, _, _, .cons r1 rs, e => by
    unfold keysAll at e
    split at e
    · rename_i k ks e1 e2
      cases e
      obtain ⟨q1, q2⟩ := keysAll_eq rs e2
      refine ⟨by rw [List.map_cons, keyOf_rep r1 e1, q1], fun k' hk => ?_⟩
      rcases List.mem_cons.mp hk with z | z
      · rw [z]; exact keyOf_ok r1 e1
      · exact q2 k' z
    · cases e
theorem leD_total : W.TotalLe leD := by
  have := W.sortLe_total (listOrd itemOrd) false fun d : D => W.keyToks (toPy d)
  exact this
theorem leD_key {a b : Key} (h1 : leD (keyD a) (keyD b) = true) (h2 : leD (keyD b) (keyD a) = true) (hk : keyIsI a = keyIsI b) : a = b := by
  unfold leD at h1 h2
  cases a with
  | inl i =>
    cases b with
    | inl j =>
      simp only [keyD, toPy, W.dataLt_int, Bool.not_eq_true', decide_eq_false_iff_not] at h1 h2
      congr 1; omega
    | inr y => cases hk
  | inr x =>
    cases b with
    | inl j => cases hk
    | inr y =>
      simp only [keyD, toPy, W.dataLt_str, Bool.not_eq_true', decide_eq_false_iff_not] at h1 h2
      congr 1
      refine W.str_of_cps ?_
      exact List.le_antisymm (List.not_lt.mp h1) (List.not_lt.mp h2)
theorem all_one {α : Type} : ∀ {l m : List α}, l.Perm m → (∀ a ∈ l, ∀ b ∈ l, a = b) → l = m
  | [], m, p, _ => (List.Perm.eq_nil p.symm).symm
  | a :: l, m, p, h => by
    have hl : ∀ b ∈ a :: l, b = a := fun b hb => h b hb a List.mem_cons_self
    have hm : ∀ b ∈ m, b = a := fun b hb => hl b (p.mem_iff.mpr hb)
    rw [List.eq_replicate_of_mem hl, List.eq_replicate_of_mem hm, p.length_eq]
theorem sort_perm {l m : List Key} (p : l.Perm m) (hk : ∀ a ∈ l, ∀ b ∈ l, keyIsI a = keyIsI b) : sortD (l.map keyD) = sortD (m.map keyD) := by
  unfold sortD
  refine W.sort_unique leD_total (W.sort_pairwise leD_total _) fun c => ?_
  rw [W.sort_stable leD_total]
  refine all_one ((p.map keyD).filter _) fun x hx y hy => ?_
  obtain ⟨hx1, hx2⟩ := List.mem_filter.mp hx
  obtain ⟨hy1, hy2⟩ := List.mem_filter.mp hy
  obtain ⟨a, ha, rfl⟩ := List.mem_map.mp hx1
  obtain ⟨b, hb, rfl⟩ := List.mem_map.mp hy1
  unfold W.sameRank at hx2 hy2
  rw [Bool.and_eq_true] at hx2 hy2
  rw [leD_key (leD_total.trans _ _ _ hx2.2 hy2.1) (leD_total.trans _ _ _ hy2.2 hx2.1) (hk a ha b hb)]
theorem kind_alike {L : List Key} (h : (∀ k ∈ L, keyIsI k = true) ∨ ∀ k ∈ L, keyIsI k = false) : W.AllAlike (L.map fun k => toPy (keyD k)) ∧ W.Sortable (L.map fun k => toPy (keyD k)) := by
  constructor
  · intro d hd d' hd'
    obtain ⟨a, ha, rfl⟩ := List.mem_map.mp hd
    obtain ⟨b, hb, rfl⟩ := List.mem_map.mp hd'
    rcases h with h | h
    · have h1 := h a ha
      have h2 := h b hb
      cases a <;> cases b <;> simp_all [keyIsI, keyD, toPy, W.alike]
    · have h1 := h a ha
      have h2 := h b hb
      cases a <;> cases b <;> simp_all [keyIsI, keyD, toPy, W.alike]
  · refine .inr fun d hd => ?_
    obtain ⟨a, ha, rfl⟩ := List.mem_map.mp hd
    cases a <;> simp [keyD, toPy]
theorem perm_of : ∀ {l m : List Key}, l.Nodup → m.Nodup → (∀ k, k ∈ l ↔ k ∈ m) → l.Perm m
  | [], m, _, _, h => by
    have : m = [] := List.eq_nil_iff_forall_not_mem.mpr fun k hk => absurd ((h k).mpr hk) (by simp)
    rw [this]
  | a :: l, m, hl, hm, h => by
    obtain ⟨s, t, rfl⟩ := List.append_of_mem ((h a).mp List.mem_cons_self)
    rw [List.nodup_cons] at hl
    have hp : (s ++ a :: t).Perm (a :: (s ++ t)) := List.perm_middle
    have hm' := hp.nodup_iff.mp hm
    rw [List.nodup_cons] at hm'
    refine (List.Perm.cons a (perm_of hl.2 hm'.2 fun k => ?_)).trans hp.symm
    have hk := h k
    rw [hp.mem_iff, List.mem_cons, List.mem_cons] at hk
    constructor
    · intro q
      rcases hk.mp (.inr q) with z | z
      · rw [z] at q; exact absurd q hl.1
      · exact z
    · intro q
      rcases hk.mpr (.inr q) with z | z
      · rw [z] at q; exact absurd q hm'.1
      · exact z
theorem keys_reps' {K : PySem.W.Frag} {mu : List Addr} {Z : Hp} : ∀ {L : List Key}, (∀ k ∈ L, KOk k) → Reps K mu Z (L.map keyD) (L.map kV)
  | [], _ => .nil
  | k :: L, h => .cons (keyD_rep k (h k List.mem_cons_self)) (keys_reps' fun k' hk => h k' (List.mem_cons_of_mem _ hk))
theorem se_sortedSet {W : WXx} {X : Cx} {e : Expr} {fr : AM} {p p2 pos pos2 : Pos} (hp : Bool) (hc : X.calm = true) (hu : X.A.units + 66 < cLine) (hg : Gl X "sorted") (hm : X.mg "sorted" = none) (hg2 : Gl X "set") (hm2 : X.mg "set" = none) (ha : SA W X [e] fr)
    (he : starEach [e] X.env = (false, eval e X.env) :: starEach [] X.env := by rfl) (hpl : (backTo pos2 (starEach [] X.env)).any (·.1) = false := by rfl)
    (he2 : starEach [.Call (.Name "set" p2) [e] [] pos2] X.env = (false, eval (.Call (.Name "set" p2) [e] [] pos2) X.env) :: starEach [] X.env := by rfl) (hpl2 : (backTo pos (starEach [] X.env)).any (·.1) = false := by rfl) :
    SE W X (.Call (.Name "sorted" p) [.Call (.Name "set" p2) [e] [] pos2] [] pos) (mApp (sortSetOp hp) fr) :=
  PE.imp (pe_callB (cr_sortedK hc hu) hg hm rfl (pa_cons (pe_callTy (cr_setK hc) hg2 hm2 PyProof.Rows.boot_set ha (by decide) (by decide) he hpl) pa_nil he2) (by decide) (by decide) he2 hpl2) fun sg H Q o => by
    refine tAs.mono (seqAs o) fun us H1 ⟨xs, q⟩ => ?_
    replace q := tA.one (f := sortSetOp hp) q
    obtain ⟨mu, Z, h, sr, rp, o⟩ := q
    unfold sortSetOp at o
    split at o
    · rename_i x
      split at o
      · rename_i ys ey
        split at o
        · rename_i ks ek
          split at o
          · rename_i hcnd
            rw [Bool.and_eq_true, decide_eq_true_eq, Bool.or_eq_true] at hcnd
            obtain ⟨hl4, hkind⟩ := hcnd
            cases rp with
            | cons r rp =>
              cases rp
              obtain ⟨a, vs, rfl, q, rv⟩ := sr.sq r ey
              obtain ⟨rfl, kok⟩ := keysAll_eq rv ek
              refine ⟨a, ks, rfl, q, hl4, fun pp n hpp hn => ⟨pp, _, n, rfl, upd_same, Nat.le_trans hn hl4, fun L hL => ?_, fun L p2 hL1 hL2 hp2 => ?_⟩⟩
              · have mem : ∀ k ∈ L, k ∈ ks := fun k hk => of_decide_eq_true ((hL k).mp hk)
                refine kind_alike ?_
                rcases hkind with z | z
                · exact .inl fun k hk => List.all_eq_true.mp z k (mem k hk)
                · exact .inr fun k hk => by simpa using List.all_eq_true.mp z k (mem k hk)
              · have mem : ∀ k, k ∈ L ↔ k ∈ ks := fun k => by rw [hL2 k]; exact decide_eq_true_iff
                obtain ⟨f1, f2⟩ := sr.fresh hpp
                have sr2 := sr.updF f1 f2 (.non hpp) (SetKO X.w pp (fun k => decide (k ∈ ks)) n)
                have p2' := (Stp.refl mu Z H1).updF hpp (SetKO X.w pp (fun k => decide (k ∈ ks)) n)
                have same : sortD ((ddK ks).map keyD) = sortD (L.map keyD) := by
                  refine sort_perm (perm_of (ddK_nodup ks) hL1 fun k => by rw [ddK_mem, mem k]) fun x hx y hy => ?_
                  rw [ddK_mem] at hx hy
                  rcases hkind with z | z
                  · rw [List.all_eq_true.mp z x hx, List.all_eq_true.mp z y hy]
                  · have h1 : keyIsI x = false := by simpa using List.all_eq_true.mp z x hx
                    have h2 : keyIsI y = false := by simpa using List.all_eq_true.mp z y hy
                    rw [h1, h2]
                rw [same] at o
                have rr : Reps X.K mu Z (sortD (L.map keyD)) ((((L.map kV).zip (L.map fun k => toPy (keyD k))).mergeSort leP).map fun z => z.1) := by
                  have := sort_reps (keys_reps' (K := X.K) (mu := mu) (Z := Z) (L := L) fun k hk => kok k ((mem k).mp hk))
                  rw [List.map_map] at this
                  exact this
                refine sr2.newL rr ?_ hp2 (Out.mono p2' o fun _ _ _ _ _ _ q => q)
                unfold sortD
                rw [List.length_mergeSort, List.length_map]
                have := (perm_of (ddK_nodup ks) hL1 fun k => by rw [ddK_mem, mem k]).length_eq
                have h3 := ddK_len ks
                have := sizeLine_eq
                omega
          · exact o.elim
        · exact o.elim
      · exact o.elim
    · exact o.elim
end TB
end

section
set_option Elab.async false
set_option linter.all false
set_option maxRecDepth 100000
set_option autoImplicit false
set_option maxHeartbeats 1000000
/-! TB20: t[::-1] of a tuple; calls of built-ins in short. -/
namespace TB
open PySem PySem.Spec PyProof.Rows L2
variable [LC] [LT]
theorem back_adjust (n : Nat) : Builtin.Slice.sliceAdjust none none (-1) (n : Int) = ((n : Int) - 1, -1) := by
  unfold Builtin.Slice.sliceAdjust
  simp
theorem back_places (n : Nat) : Builtin.Slice.slicePlaces ((n : Int) - 1) (-1) (-1) = n := by
  unfold Builtin.Slice.slicePlaces
  simp
  split <;> omega
theorem back_pick (xs : Array Value) : ((List.range xs.size).filterMap fun (m : Nat) => xs[((xs.size : Int) - 1 + (m : Int) * -1).toNat]?) = xs.toList.reverse := by
  apply List.ext_getElem?
  intro i
  have e : ∀ (l : List Nat), (∀ m ∈ l, m < xs.size) → l.filterMap (fun (m : Nat) => xs[((xs.size : Int) - 1 + (m : Int) * -1).toNat]?) = l.filterMap fun m => xs.toList.reverse[m]? := by
    intro l hl
    induction l with
    | nil => rfl
    | cons a r ih =>
      have ha := hl a List.mem_cons_self
      have e1 : xs[((xs.size : Int) - 1 + (a : Int) * -1).toNat]? = xs.toList.reverse[a]? := by
        have : ((xs.size : Int) - 1 + (a : Int) * -1).toNat = xs.size - 1 - a := by omega
        rw [this, List.getElem?_reverse (by simpa using ha)]
        simp
      rw [List.filterMap_cons, List.filterMap_cons, e1, ih fun m hm => hl m (List.mem_cons_of_mem _ hm)]
  rw [e _ fun m hm => List.mem_range.mp hm]
  have e2 : ∀ (l : List Value), (List.range l.length).filterMap (fun m => l[m]?) = l := by
    intro l
    induction l with
    | nil => rfl
    | cons a r ih =>
      rw [List.length_cons, List.range_succ_eq_map, List.filterMap_cons]
      simp only [List.getElem?_cons_zero, List.filterMap_map]
      congr 1
  have := e2 xs.toList.reverse
  rw [List.length_reverse, Array.length_toList] at this
  rw [this]
section
variable {prog : Program} {w : World} {A : Around} {E : Value → Shared → Prop} {s : Shared}
theorem back_applied {sl : Addr} {vs : Value} {n : Nat} {Q : Int × Int × Nat → Shared → Prop} (hs : s.heap.IsSliceOf sl .none .none vs) (ps : IsPart vs (some (-1))) (h : Q ((n : Int) - 1, -1, n) s) :
    wpAny (model prog w) A (Builtin.Slice.sliceApplied (.ref sl) (pure (n : Int))) Q E s := by
  obtain ⟨os, hos, hcs, hds⟩ := id hs
  unfold Builtin.Slice.sliceApplied Builtin.Slice.sliceFields
  refine wpAny_bind (wpAny_bind (wpAny_field hos hds (x := .none) rfl (wpAny_bind (wpAny_field hos hds (x := .none) rfl (wpAny_bind (wpAny_field hos hds (x := vs) rfl (wpAny_pure ?_)))))))
  refine wpAny_bind (HT.slicePart_ ps ?_)
  show wpAny _ _ (if ((-1 : Int) == 0) = true then _ else _) _ _ s
  rw [if_neg (by decide)]
  refine wpAny_bind (HT.slicePart_ .none (wpAny_bind (HT.slicePart_ .none (wpAny_bind (wpAny_pure ?_)))))
  show wpAny _ _ (match Builtin.Slice.sliceAdjust none none (-1) (n : Int) with | (lo, hi) => pure (lo, (-1 : Int), Builtin.Slice.slicePlaces lo hi (-1))) _ _ s
  rw [back_adjust]
  show wpAny _ _ (pure ((n : Int) - 1, (-1 : Int), Builtin.Slice.slicePlaces ((n : Int) - 1) (-1) (-1))) _ _ s
  rw [back_places]
  exact wpAny_pure h
theorem getItem_tuple_back {t sl : Addr} {items : Array Value} {vs : Value} {Q : Value → Shared → Prop} (ht : PyProof.Rows.IsTup s.heap t items) (hs : s.heap.IsSliceOf sl .none .none vs) (ps : IsPart vs (some (-1)))
    (h : Q (.ref s.heap.objs.size) { s with heap := s.heap.push { cls := .type "tuple", data := .seq items.toList.reverse.toArray } }) (hsz : items.size ≤ sizeLine) : wpAny (model prog w) A (getItem (.ref t) (.ref sl)) Q E s := by
  have hbig : sizeOk (.seq items.toList.reverse.toArray) := by
    show items.toList.reverse.toArray.size ≤ sizeLine
    simpa using hsz
  obtain ⟨os, hos, hcs, hds⟩ := id hs
  have hTs : s.TypeIs (.ref sl) "slice" := ⟨os, hos, hcs⟩
  unfold getItem
  try with_reducible refine wpAny_holding ?_
  first | refine wpAny_bind (wpAny_pure ?_) | skip
  refine wpAny_bind (wpAny_sequenceKey ht.typeIs (by decide) ?_)
  refine wpAny_bind (wpAny_callSpecial?_slot (name := Str.ofString "__getitem__") ht.typeIs PyProof.Rows.slot_tuple_getitem
    (wpAny_call_entry PyProof.Rows.slot_tuple_getitem ht.typeIs entry_tuple_getitem ?_ (args_tuple_getitem _ _)))
  show wpAny _ _ (Builtin.Tuple.tupleItemsOf (.ref t) >>= _) _ _ s
  refine wpAny_bind (tupleItemsOf_ ht ?_)
  refine wpAny_bind (wpAny_typeOf hTs ?_)
  rw [if_pos (by decide)]
  refine wpAny_bind (back_applied hs ps ?_)
  have hno : ¬ ((((items.size : Nat) : Int) - 1 == 0 && (-1 : Int) == 1 && items.size == items.size) = true) := by
    intro q
    rw [Bool.and_eq_true, Bool.and_eq_true] at q
    exact absurd q.1.2 (by decide)
  show wpAny _ _ (if (((items.size : Nat) : Int) - 1 == 0 && (-1 : Int) == 1 && items.size == items.size) = true then _ else _) _ _ s
  rw [if_neg hno, back_pick]
  first
    | exact wpAny_bind (m := Builtin.Tuple.tupleExact _) (wpAny_newObj_type (wpAny_pure ⟨_, rfl, wpAny_pure h⟩) hbig)
    | exact wpAny_bind (wpAny_bind (m := Builtin.Tuple.tupleExact _) (wpAny_newObj_type (wpAny_pure ⟨_, rfl, wpAny_pure h⟩) hbig))
end

section
variable {X : Cx}
def tRevA (K : PySem.W.Frag) (te : TE) : TE := fun σ H Q => te σ H fun x H1 => ∃ a xs, x = .ref a ∧ ((SqL K H1 a xs ∧ ∀ p, H1 p = none → Q (.ref p) (upd H1 p (.lst xs.reverse))) ∨ (SqT K H1 a xs ∧ rNT xs.reverse H1 Q))
theorem pe_revA {e : Expr} {te : TE} {k : Nat} {p1 p2 p3 pos : Pos} (he : PE X e te) : PE X (.Subscript e (.Slice none none (some (.UnaryOp .USub (.Constant (.int 1) k p1) p2)) p3) pos) (tRevA X.K te) := by
  refine ⟨fun pins s σ H Q I h => ?_⟩
  refine Subscript_ (thn (he.run pins s σ H _ I h) fun v s1 ⟨x, H1, I1, r1, q1⟩ => ?_)
  obtain ⟨a, xs, ex, hq⟩ := q1
  subst ex
  cases r1
  have hst : PO X (some (.UnaryOp .USub (.Constant (.int 1) k p1) p2)) (tPart (tUn (rU fun i => .int (-i)) (tC (.int 1)))) := po_some (pe_un un_neg pe_int)
  refine wpAny_Slice (thn (po_none.run pins s1 σ H1 (fun o H2 => o = none ∧ H2 = H1) I1 ⟨rfl, rfl⟩) fun vl s2 ⟨l, H2, I2, pl, el, e2⟩ => ?_)
  subst el e2
  refine thn (po_none.run pins s2 σ H2 (fun o H3 => o = none ∧ H3 = H2) I2 ⟨rfl, rfl⟩) fun vu s3 ⟨u, H3, I3, pu, eu, e3⟩ => ?_
  subst eu e3
  refine thn (hst.run pins s3 σ H3 (fun o H4 => o = some (-1) ∧ H4 = H3) I3 ⟨1, rfl, -1, rfl, rfl, rfl⟩) fun vs s4 ⟨o, H4, I4, ps, eo, e4⟩ => ?_
  subst eo e4
  have I5 : Inv X pins σ H4 { s4 with heap := s4.heap.push { cls := .type "slice", data := .fields #[vl, vu, vs] } } := I4.kept (t' := s4.toks) fun b ob q => Heap.get?_push_of_some _ q
  rcases hq with ⟨hx, q⟩ | ⟨hx, q⟩
  · obtain ⟨its, r, ht, hz⟩ := I5.list hx
    have hlen := r.length
    refine tail_any (ops := [.ref a, .ref s4.heap.objs.size]) ht.isList.typeIs (PySem.slot_list_getitem.lookup) ?_ (by with_unfolding_all rfl)
    refine wpAny_getItem_list_slice ht.isList (Heap.IsSliceOf.new _ vl vu vs) pl pu ps (by decide) ?_ (by rw [List.size_toArray]; omega)
    rw [PySem.W.krv_pick]
    exact ⟨.ref _, _, I5.laid (t' := s4.toks) (o := .lst xs.reverse) (fun b ob q => Heap.get?_push_of_some _ q) (Nat.le_refl _) ⟨by rw [List.length_reverse]; exact hz, _, 0, r.reverse, Heap.get?_push_size _ rfl⟩, rfl, q _ (I5.hok.fresh (Nat.le_refl _))⟩
  · obtain ⟨its, r, ht, hz⟩ := I5.tuple hx
    have hlen := r.length
    cases pl
    cases pu
    refine tail_any (ops := [.ref a, .ref s4.heap.objs.size]) ht.typeIs (PyProof.Rows.slot_tuple_getitem.lookup) ?_ (by with_unfolding_all rfl)
    refine getItem_tuple_back ht (Heap.IsSliceOf.new _ .none .none vs) ps ?_ (by rw [List.size_toArray]; omega)
    exact new_tup (t := s4.toks) I5 r.reverse (by rw [List.length_reverse]; exact hz) q
end
def revAOp (hp : Bool) (x : D) (h : Hh) : Res D := match x with
  | .tup xs => mkT xs.reverse h
  | x => match lsOf h x with
    | some xs => mkL hp xs.reverse h
    | none => .bad
section
variable {W : WXx} {X : Cx} {a b c e : Expr} {fa fb fc : EM} {fr : AM} {p pos : Pos}
theorem se_rev (hp : Bool) {k : Nat} {p1 p2 p3 : Pos} (ha : SE W X a fa) : SE W X (.Subscript a (.Slice none none (some (.UnaryOp .USub (.Constant (.int 1) k p1) p2)) p3) pos) (m1 (revAOp hp) fa) :=
  PE.imp (pe_revA ha) fun sg H Q o => by
    refine tA.mono (tA.seq (k := fun x _ h => revAOp hp x h) o) fun u H1 ⟨x, q⟩ => ?_
    replace q := q.open1
    obtain ⟨mu, Z, h, s, sr, sl, rx, o⟩ := q
    unfold revAOp at o
    split at o
    · cases rx with
      | tup q rp ln => exact ⟨_, _, rfl, .inr ⟨(sr.zin.tupZ q).sq, sr.newT rp.reverse (by rw [List.length_reverse]; exact ln) o⟩⟩
    · split at o
      · rename_i xs e
        obtain ⟨a, vs, rfl, q, rp⟩ := sr.ls rx e
        exact ⟨a, vs, rfl, .inl ⟨SqL.of q, fun p hp => sr.newL rp.reverse (by rw [List.length_reverse]; exact sr.lsLen rx e) hp o⟩⟩
      · exact o.elim

/-! ### built-ins in short -/
theorem se_len (hg : Gl X "len") (hm : X.mg "len" = none) (ha : SA W X [a] fr) (he : starEach [a] X.env = (false, eval a X.env) :: starEach [] X.env := by rfl) (hpl : (backTo pos (starEach [] X.env)).any (·.1) = false := by rfl) : SE W X (.Call (.Name "len" p) [a] [] pos) (mApp lenOp fr) :=
  se_callB call_lenA opA_len hg hm PySem.boot_len ha (by decide) (by decide) he hpl
theorem se_intC (hg : Gl X "int") (hm : X.mg "int" = none) (ha : SA W X [a] fr) (he : starEach [a] X.env = (false, eval a X.env) :: starEach [] X.env := by rfl) (hpl : (backTo pos (starEach [] X.env)).any (·.1) = false := by rfl) : SE W X (.Call (.Name "int" p) [a] [] pos) (mApp intOp fr) :=
  se_callTy call_int1 opA_int hg hm rfl ha (by decide) (by decide) he hpl
theorem se_tupC (hg : Gl X "tuple") (hm : X.mg "tuple" = none) (ha : SA W X [a] fr) (he : starEach [a] X.env = (false, eval a X.env) :: starEach [] X.env := by rfl) (hpl : (backTo pos (starEach [] X.env)).any (·.1) = false := by rfl) : SE W X (.Call (.Name "tuple" p) [a] [] pos) (mApp tupleOp fr) :=
  se_callTy call_tupleF opA_tuple hg hm rfl ha (by decide) (by decide) he hpl
theorem se_listC (hp : Bool) (hg : Gl X "list") (hm : X.mg "list" = none) (ha : SA W X [a] fr) (he : starEach [a] X.env = (false, eval a X.env) :: starEach [] X.env := by rfl) (hpl : (backTo pos (starEach [] X.env)).any (·.1) = false := by rfl) : SE W X (.Call (.Name "list" p) [a] [] pos) (mApp (listOp1 hp) fr) :=
  se_callTy call_list_of opA_list hg hm rfl ha (by decide) (by decide) he hpl
theorem se_all (hc : X.calm = true) (hg : Gl X "all") (hm : X.mg "all" = none) (ha : SA W X [a] fr) (he : starEach [a] X.env = (false, eval a X.env) :: starEach [] X.env := by rfl) (hpl : (backTo pos (starEach [] X.env)).any (·.1) = false := by rfl) : SE W X (.Call (.Name "all" p) [a] [] pos) (mApp allOp fr) :=
  se_callB (cr_all hc) opA_all hg hm rfl ha (by decide) (by decide) he hpl
theorem se_any (hc : X.calm = true) (hg : Gl X "any") (hm : X.mg "any" = none) (ha : SA W X [a] fr) (he : starEach [a] X.env = (false, eval a X.env) :: starEach [] X.env := by rfl) (hpl : (backTo pos (starEach [] X.env)).any (·.1) = false := by rfl) : SE W X (.Call (.Name "any" p) [a] [] pos) (mApp anyOp fr) :=
  se_callB (cr_any hc) opA_any hg hm rfl ha (by decide) (by decide) he hpl
theorem se_isi (hg : Gl X "isinstance") (hm : X.mg "isinstance" = none) (ha : SA W X [a, b] fr) (he : starEach [a, b] X.env = (false, eval a X.env) :: starEach [b] X.env := by rfl) (hpl : (backTo pos (starEach [b] X.env)).any (·.1) = false := by rfl) : SE W X (.Call (.Name "isinstance" p) [a, b] [] pos) (mApp isiOp fr) :=
  se_callB call_isiA opA_isi hg hm rfl ha (by decide) (by decide) he hpl
end
end TB
end

section
set_option Elab.async false
set_option linter.all false
set_option maxRecDepth 100000
set_option autoImplicit false
set_option maxHeartbeats 1000000
/-! TB21: what the printed derivations name. -/
namespace TB
open PySem PySem.Spec PyProof.Rows L2
variable [LC] [LT]
theorem u64 {k : Nat} {A : Around} (hr : Room k A) : A.units + 64 < cLine := by have := hr.un; omega
theorem u65 {k : Nat} {A : Around} (hr : Room k A) : A.units + 65 < cLine := by have := hr.un; omega
theorem u66 {k : Nat} {A : Around} (hr : Room k A) : A.units + 66 < cLine := by have := hr.un; omega
theorem quiet_cons {g : GM} {gs : List GM} (h : Quiet g) (hs : ∀ g, g ∈ gs → Quiet g) : ∀ g', g' ∈ g :: gs → Quiet g' := fun g' hm => by
  rcases List.mem_cons.mp hm with z | z
  · rw [z]; exact h
  · exact hs g' z
/-- a def that is never called to the end -/
theorem bad_ok {P : Program} {w : World} {K : PySem.W.Frag} {mg : Str → Option Value} {base : Heap} {k n : Nat} {f : Addr} {fd : FuncData} {ps : List Str} (hn : ps.length = n) : FnOk P w K mg base CX0 k f fd ps (spF K n fun _ _ => .bad) :=
  ⟨fun vs H Q E h => by rw [hn]; exact h.1, fun A outer s H args us vs Q E hr e0 hb hv h => by
    obtain ⟨_, mu, Z, hh, ds, sr, rp, o⟩ := h
    exact o.elim⟩
section
variable {W : WXx} {X : Cx} {o e : Expr} {fo fa : EM} {fr : AM} {apos cpos : Pos}
theorem se_append (ho : SE W X o fo) (ha : SA W X [e] fr)
    (hbase : attributeBase o "append" X.env (eval o X.env) = eval o X.env := by rfl)
    (hfew : ((backTo cpos (starEach [e] X.env)).all (fun x => !x.1) && (backToKw cpos (keywordEach [] X.env)).all (fun x => x.1.isSome)
      && decide ([e].length + ([] : List Keyword).length + (if ([] : List Keyword).isEmpty then 0 else 1) < 30)) = true := by rfl)
    (hline : (apos.endLine == cpos.line) = true := by rfl) (hs : starEach [e] X.env = (false, eval e X.env) :: starEach [] X.env := by rfl) (hplain : (backTo cpos (starEach [] X.env)).any (·.1) = false := by rfl) :
    SE W X (.Call (.Attribute o "append" apos) [e] [] cpos) (mMet .lst appendOp fo fr) :=
  se_met (T := .lst) (.inl rfl) PySem.F.plainAttrs_list PySem.F.slot_list_append PySem.F.type_list_append mt_append opM_append ho ha hbase hfew hline hs hplain
theorem se_indexT (hu : X.A.units + 65 < cLine) (ho : SE W X o fo) (ha : SA W X [e] fr)
    (hbase : attributeBase o "index" X.env (eval o X.env) = eval o X.env := by rfl)
    (hfew : ((backTo cpos (starEach [e] X.env)).all (fun x => !x.1) && (backToKw cpos (keywordEach [] X.env)).all (fun x => x.1.isSome)
      && decide ([e].length + ([] : List Keyword).length + (if ([] : List Keyword).isEmpty then 0 else 1) < 30)) = true := by rfl)
    (hline : (apos.endLine == cpos.line) = true := by rfl) (hs : starEach [e] X.env = (false, eval e X.env) :: starEach [] X.env := by rfl) (hplain : (backTo cpos (starEach [] X.env)).any (·.1) = false := by rfl) :
    SE W X (.Call (.Attribute o "index" apos) [e] [] cpos) (mMet .tup indexTOp fo fr) :=
  se_met (T := .tup) (.inr (.inr (.inl rfl))) PySem.F.plainAttrs_tuple PySem.F.slot_tuple_index PySem.F.type_tuple_index (mt_indexT hu) opM_indexT ho ha hbase hfew hline hs hplain
end
end TB
namespace TB
open PySem PySem.Spec PyProof.Rows L2
variable [LC] [LT]
/-- without the tables -/
def noTb (H : Hp) : Hp := fun a => match H a with
  | some (.tbl _) => none
  | o => o
theorem law_sp {K : PySem.W.Frag} {H : Hp} {a : Addr} {ns : List Int} {F : FM} (hT : LamX.Tabs LT.T H) (hl : ns.length ≤ 63) (hS : SqL K H a (ns.map V.int)) (h : ∃ h', F [.scr ns] [] = .ok (.bl true) h') :
    spF K 1 F [.ref a] H (fun v _ => v = .bl true) fun _ _ _ => False := by
  obtain ⟨h', e⟩ := h
  have nL : ∀ (xs : List V) (ps : Array Value), HO.lst xs ≠ .tbl ps := fun _ _ z => by cases z
  have nF : ∀ (o : Obj) (xs : List V) (ps : Array Value), HO.frz o (.lst xs) ≠ .tbl ps := fun _ _ _ z => by cases z
  have key : ∀ b u, H b = some u → (∀ ps, u ≠ .tbl ps) → noTb H b = some u := fun b u e n => by
    unfold noTb
    split
    · rename_i ps q
      rw [e] at q; exact absurd (Option.some.inj q) (n ps)
    · exact e
  have sb : Sub (noTb H) H := fun b u e => by
    unfold noTb at e
    split at e
    · cases e
    · exact e
  have hS' : SqL K (noTb H) a (ns.map V.int) := by
    rcases hS with (h | ⟨o, h⟩) | h
    · exact .inl (.inl (key _ _ h (nL _)))
    · exact .inl (.inr ⟨o, key _ _ h (nF _ _)⟩)
    · exact .inr h
  refine ⟨rfl, [], noTb H, [], [.scr ns], ⟨sb, rfl, List.nodup_nil, fun a ha => absurd ha (by simp), fun n ob a e1 e2 => by simp at e1, ⟨hT, fun b ps e => ?_⟩⟩, .cons (.scr hS' (Nat.le_trans hl (by decide))) .nil, ?_⟩
  · unfold noTb at e
    split at e
    · cases e
    · rename_i q
      exact q ps e
  rw [e]
  exact fun mu' Z' H' _ _ u r => by cases r; rfl
end TB
end

section

end

section
set_option Elab.async false
set_option linter.all false
set_option maxRecDepth 100000
set_option autoImplicit false
set_option maxHeartbeats 1000000
/-! TB23: list comprehensions with two for. -/
namespace TB
open PySem PySem.Spec PyProof.Rows L2
variable [LC] [LT]
open Classical in
noncomputable def lcJ (g : GM) (ft : TM) (fe : EM) (own : List Nat) (lk : Lk) (s : Sl) : List D → List D → Hh → Res (List D)
  | [], acc, h => if lockOk lk h then .ok acc h else .bad
  | x :: xs, acc, h => if lockOk lk h then bnd (g x (wip s own) h) fun s1 h1 => bnd (ft s1 h1) fun b h2 => if b = true then bnd (fe s1 h2) fun v h3 => (if acc.length < sizeLine then lcJ g ft fe own lk s xs (acc ++ [v]) h3 else .bad) else lcJ g ft fe own lk s xs acc h2 else .bad
open Classical in
noncomputable def lcM (g : GM) (ft : TM) (im1 : IM) (g1 : GM) (ft1 : TM) (fe : EM) (own own1 : List Nat) (lk : Lk) (s : Sl) : List D → List D → Hh → Res (List D)
  | [], acc, h => if lockOk lk h then .ok acc h else .bad
  | x :: xs, acc, h => if lockOk lk h then bnd (g x (wip s own) h) fun s1 h1 => bnd (ft s1 h1) fun b h2 => if b = true then bnd (im1 s1 h2) fun p h3 => bnd (lcJ g1 ft1 fe own1 p.2 s1 p.1 acc h3) fun acc' h4 => lcM g ft im1 g1 ft1 fe own own1 lk s xs acc' h4 else lcM g ft im1 g1 ft1 fe own own1 lk s xs acc h2 else .bad
noncomputable def mLc2 (hp : Bool) (im : IM) (g : GM) (ft : TM) (im1 : IM) (g1 : GM) (ft1 : TM) (fe : EM) (own own1 : List Nat) : EM := fun s h => (im s h).bind fun p h1 => (lcM g ft im1 g1 ft1 fe own own1 p.2 s p.1 [] h1).bind fun xs h2 => mkL hp xs h2
theorem pre_app {m0 m m' : List Addr} {Z Z' H H' : Hp} (a : ∃ nu, m = m0 ++ nu) (p : Stp m Z H m' Z' H') : ∃ nu, m' = m0 ++ nu := by
  obtain ⟨x, rfl⟩ := a
  obtain ⟨y, rfl⟩ := p.pre
  exact ⟨x ++ y, by rw [List.append_assoc]⟩
theorem pre3 {m0 m m1 m2 m3 : List Addr} {Z Z1 Z2 Z3 H H1 H2 H3 H' H2' : Hp} (a : ∃ nu, m = m0 ++ nu) (p : Stp m Z H m1 Z1 H1) (q : Stp m1 Z1 H' m2 Z2 H2) (r : Stp m2 Z2 H2' m3 Z3 H3) : ∃ nu, m3 = m0 ++ nu := pre_app (pre_app (pre_app a p) q) r
theorem sub3 {m m1 m2 m3 : List Addr} {Z0 Z Z1 Z2 Z3 H H1 H2 H3 H' H2' : Hp} (a : Sub Z0 Z) (p : Stp m Z H m1 Z1 H1) (q : Stp m1 Z1 H' m2 Z2 H2) (r : Stp m2 Z2 H2' m3 Z3 H3) : Sub Z0 Z3 := ((a.trans p.zm).trans q.zm).trans r.zm
section
variable {W : WXx} {im im1 : IM} {g g1 : GM} {ft ft1 : TM} {fe : EM}
theorem lc2_step {hp : Bool} {K : PySem.W.Frag} {vs vs1 : List Nat} {sg : L2.St} {H : Hp} {Q : VK} (o : tE K W (mLc2 hp im g ft im1 g1 ft1 fe vs vs1) sg H Q) :
    tLc2 (tI K W im) (tGO K g vs) (tT K WF ft) (tI K WF im1) (tGO K g1 vs1) (tT K WF ft1) (tE K WF fe) vs vs1 sg H Q := by
  obtain ⟨mu, Z, h, s, sr, sl, _, o⟩ := o
  refine ⟨mu, Z, h, s, sr, sl, ?_⟩
  unfold mLc2 at o
  cases ei : im s h with
  | ex x h1 =>
    simp only [ei, Res.bind_ex] at o
    exact o
  | bad =>
    simp only [ei, Res.bind_bad] at o
    exact o.elim
  | ok p h1 =>
    simp only [ei, Res.bind_ok] at o
    intro mu1 Z1 H1 sr1 p1 J wk D hD
    have o1 := Out.mono p1 o fun _ _ _ _ _ _ q => q
    obtain ⟨f1, f2⟩ := sr1.fresh hD
    refine ⟨fun i m H => i ≤ p.1.length ∧ m = p.1.length - i ∧ ∃ mu Z h acc us, SR K mu Z H h ∧ Stp mu1 Z1 H1 mu Z H ∧ D ∉ mu ∧ Z D = none ∧ H D = some (.lst us) ∧ Reps K mu Z acc us ∧ acc.length ≤ sizeLine ∧
      Out K mu1 Z1 H1 ((lcM g ft im1 g1 ft1 fe vs vs1 p.2 s (p.1.drop i) acc h).bind fun xs h2 => mkL hp xs h2) (fun c d H' => W c d sg H') fun v mu' Z' H' _ => ∀ u, Rep K mu' Z' v u → Q u H', ⟨p.1.length, Nat.zero_le _, by simp, mu1, Z1, h1, [], [], sr1.updF f1 f2 (.non hD) _, (Stp.refl _ _ _).updF hD _, f1, f2, upd_same, .nil, Nat.zero_le _, o1⟩, ?_⟩
    rintro i m H2 ⟨hi, rfl, mu2, Z2, h2, acc, us, sr2, p2, d1, d2, d3, rp, hl, o2⟩
    by_cases hlt : i < p.1.length
    · right
      have ed : p.1.drop i = p.1[i] :: p.1.drop (i + 1) := List.drop_eq_getElem_cons hlt
      rw [ed] at o2
      simp only [lcM] at o2
      by_cases hlk : lockOk p.2 h2
      · rw [if_pos hlk] at o2
        refine ⟨wk.go mu2 Z2 H2 h2 i sr2 p2.pre p2.zm hlk hlt, fun H => ∃ mu Z h acc us, SR K mu Z H h ∧ Stp mu1 Z1 H1 mu Z H ∧ D ∉ mu ∧ Z D = none ∧ H D = some (.lst us) ∧ Reps K mu Z acc us ∧ acc.length ≤ sizeLine ∧
          Out K mu1 Z1 H1 ((lcM g ft im1 g1 ft1 fe vs vs1 p.2 s (p.1.drop (i + 1)) acc h).bind fun xs h2 => mkL hp xs h2) (fun c d H' => W c d sg H') fun v mu' Z' H' _ => ∀ u, Rep K mu' Z' v u → Q u H', fun H' q => ⟨p.1.length - (i + 1), by omega, hlt, rfl, q⟩, fun x H3 y => ?_⟩
        obtain ⟨Z3, sr3, p3, d, ed3, r3⟩ := wk.yl mu2 Z2 H2 h2 i x H3 sr2 p2.pre p2.zm hlk hlt y
        rw [List.getElem?_eq_getElem hlt] at ed3
        cases ed3
        obtain ⟨d1, d2, d3⟩ := p3.keepD d1 d2 d3
        have p13 := p2.trans p3
        have rp := p3.reps rp
        have sl3 := ((sl.mono p1).mono p13).wip vs
        refine ⟨mu2, Z3, h2, wip s vs, p.1[i], sr3, sl3, r3, ?_⟩
        cases eg : g p.1[i] (wip s vs) h2 with
        | ex x h1 =>
          simp only [eg, bnd, Res.bind_bad] at o2
          exact o2.elim
        | bad =>
          simp only [eg, bnd, Res.bind_bad] at o2
          exact o2.elim
        | ok s4 h4 =>
          simp only [eg, bnd] at o2
          intro mu4 Z4 H4 sr4 p4 sg4 sl4 w4
          obtain ⟨d1, d2, d3⟩ := p4.keepD d1 d2 d3
          have p14 := p13.trans p4
          have rp := p4.reps rp
          refine ⟨w4.trans wipe_wipe, mu4, Z4, h4, s4, sr4, sl4, ?_⟩
          cases et : ft s4 h4 with
          | ex x h1 =>
            simp only [et, Res.bind_bad] at o2
            exact o2.elim
          | bad =>
            simp only [et, Res.bind_bad] at o2
            exact o2.elim
          | ok b h5 =>
            simp only [et] at o2
            intro mu5 Z5 H5 sr5 p5
            obtain ⟨d1, d2, d3⟩ := p5.keepD d1 d2 d3
            have p15 := p14.trans p5
            have rp := p5.reps rp
            cases b with
            | false =>
              rw [if_neg Bool.false_ne_true] at o2 ⊢
              exact ⟨mu5, Z5, h5, acc, us, sr5, p15, d1, d2, d3, rp, hl, o2⟩
            | true =>
              rw [if_pos rfl] at o2 ⊢
              have sl5 := sl4.mono p5
              refine ⟨mu5, Z5, h5, s4, sr5, sl5, ?_⟩
              cases ei1 : im1 s4 h5 with
              | ex x h1 =>
                simp only [ei1, bnd, Res.bind_bad] at o2
                exact o2.elim
              | bad =>
                simp only [ei1, bnd, Res.bind_bad] at o2
                exact o2.elim
              | ok q h6 =>
                simp only [ei1] at o2
                intro mu6 Z6 H6 sr6 p6 J1 wk1
                obtain ⟨d1, d2, d3⟩ := p6.keepD d1 d2 d3
                have p16 := p15.trans p6
                have rp := p6.reps rp
                have sl6 := sl5.mono p6
                refine ⟨fun j k H => j ≤ q.1.length ∧ k = q.1.length - j ∧ ∃ mu Z h acc us, SR K mu Z H h ∧ Stp mu1 Z1 H1 mu Z H ∧ (∃ nu, mu = mu6 ++ nu) ∧ Sub Z6 Z ∧ SltR K mu Z s4 sg4 ∧ D ∉ mu ∧ Z D = none ∧ H D = some (.lst us) ∧ Reps K mu Z acc us ∧ acc.length ≤ sizeLine ∧
                  Out K mu1 Z1 H1 ((bnd (lcJ g1 ft1 fe vs1 q.2 s4 (q.1.drop j) acc h) fun acc' h4 => lcM g ft im1 g1 ft1 fe vs vs1 p.2 s (p.1.drop (i + 1)) acc' h4).bind fun xs h2 => mkL hp xs h2) (fun c d H' => W c d sg H') fun v mu' Z' H' _ => ∀ u, Rep K mu' Z' v u → Q u H',
                  ⟨q.1.length, Nat.zero_le _, by simp, mu6, Z6, h6, acc, us, sr6, p16, ⟨[], by simp⟩, Sub.refl _, sl6, d1, d2, d3, rp, hl, o2⟩, ?_⟩
                rintro j k H7 ⟨hj, rfl, mu7, Z7, h7, ac, ws, sr7, p7, e7, z7, sl7, d1, d2, d3, rp, hl7, o7⟩
                by_cases hjt : j < q.1.length
                · right
                  have edj : q.1.drop j = q.1[j] :: q.1.drop (j + 1) := List.drop_eq_getElem_cons hjt
                  rw [edj] at o7
                  simp only [lcJ] at o7
                  by_cases hlk1 : lockOk q.2 h7
                  · rw [if_pos hlk1] at o7
                    refine ⟨wk1.go mu7 Z7 H7 h7 j sr7 e7 z7 hlk1 hjt, fun H => ∃ mu Z h acc us, SR K mu Z H h ∧ Stp mu1 Z1 H1 mu Z H ∧ (∃ nu, mu = mu6 ++ nu) ∧ Sub Z6 Z ∧ SltR K mu Z s4 sg4 ∧ D ∉ mu ∧ Z D = none ∧ H D = some (.lst us) ∧ Reps K mu Z acc us ∧ acc.length ≤ sizeLine ∧
                      Out K mu1 Z1 H1 ((bnd (lcJ g1 ft1 fe vs1 q.2 s4 (q.1.drop (j + 1)) acc h) fun acc' h4 => lcM g ft im1 g1 ft1 fe vs vs1 p.2 s (p.1.drop (i + 1)) acc' h4).bind fun xs h2 => mkL hp xs h2) (fun c d H' => W c d sg H') fun v mu' Z' H' _ => ∀ u, Rep K mu' Z' v u → Q u H', fun H' z => ⟨q.1.length - (j + 1), by omega, hjt, rfl, z⟩, fun x H8 y => ?_⟩
                    obtain ⟨Z8, sr8, p8, d, ed8, r8⟩ := wk1.yl mu7 Z7 H7 h7 j x H8 sr7 e7 z7 hlk1 hjt y
                    rw [List.getElem?_eq_getElem hjt] at ed8
                    cases ed8
                    obtain ⟨d1, d2, d3⟩ := p8.keepD d1 d2 d3
                    have p18 := p7.trans p8
                    have sl8 := sl7.mono p8
                    have rp := p8.reps rp
                    refine ⟨mu7, Z8, h7, wip s4 vs1, q.1[j], sr8, sl8.wip vs1, r8, ?_⟩
                    cases eg1 : g1 q.1[j] (wip s4 vs1) h7 with
                    | ex x h1 =>
                      simp only [eg1, bnd, Res.bind_bad] at o7
                      exact o7.elim
                    | bad =>
                      simp only [eg1, bnd, Res.bind_bad] at o7
                      exact o7.elim
                    | ok s9 h9 =>
                      simp only [eg1, bnd] at o7
                      intro mu9 Z9 H9 sr9 p9 sg9 sl9 w9
                      obtain ⟨d1, d2, d3⟩ := p9.keepD d1 d2 d3
                      have p19 := p18.trans p9
                      have rp := p9.reps rp
                      refine ⟨w9.trans wipe_wipe, mu9, Z9, h9, s9, sr9, sl9, ?_⟩
                      cases et1 : ft1 s9 h9 with
                      | ex x h1 =>
                        simp only [et1, bnd, Res.bind_bad] at o7
                        exact o7.elim
                      | bad =>
                        simp only [et1, bnd, Res.bind_bad] at o7
                        exact o7.elim
                      | ok b1 h10 =>
                        simp only [et1] at o7
                        intro mu10 Z10 H10 sr10 p10
                        obtain ⟨d1, d2, d3⟩ := p10.keepD d1 d2 d3
                        have p110 := p19.trans p10
                        have rp := p10.reps rp
                        cases b1 with
                        | false =>
                          rw [if_neg Bool.false_ne_true]
                          try simp only [bnd, Bool.false_eq_true, if_false] at o7
                          exact ⟨mu10, Z10, h10, ac, ws, sr10, p110, pre3 e7 p8 p9 p10, sub3 z7 p8 p9 p10, ((sl8.mono p9).mono p10), d1, d2, d3, rp, hl7, o7⟩
                        | true =>
                          rw [if_pos rfl]
                          try simp only [bnd, if_true] at o7
                          refine ⟨mu10, Z10, h10, s9, sr10, sl9.mono p10, .nil, ?_⟩
                          cases ee : fe s9 h10 with
                          | ex x h1 =>
                            simp only [ee, Res.bind_bad] at o7
                            exact o7.elim
                          | bad =>
                            simp only [ee, Res.bind_bad] at o7
                            exact o7.elim
                          | ok v h11 =>
                            simp only [ee] at o7
                            intro mu11 Z11 H11 sr11 p11 u ru
                            obtain ⟨d1, d2, d3⟩ := p11.keepD d1 d2 d3
                            have p111 := p110.trans p11
                            have rp := p11.reps rp
                            have rl := rp.length
                            by_cases hz : ac.length < sizeLine
                            · rw [if_pos hz] at o7
                              exact ⟨ws, d3, by omega, mu11, Z11, h11, ac ++ [v], ws ++ [u], sr11.updF d1 d2 (.som d3) _, p111.updF hD _, pre_app (pre3 e7 p8 p9 p10) p11, (sub3 z7 p8 p9 p10).trans p11.zm, (((sl8.mono p9).mono p10).mono p11), d1, d2, upd_same, rp.append (.cons ru .nil), by simp; omega, o7⟩
                            · rw [if_neg hz] at o7
                              simp only [Res.bind_bad] at o7
                              exact o7.elim
                  · rw [if_neg hlk1] at o7
                    simp only [bnd, Res.bind_bad] at o7
                    exact o7.elim
                · left
                  have hj2 : j = q.1.length := by omega
                  subst hj2
                  rw [List.drop_length] at o7
                  simp only [lcJ] at o7
                  by_cases hlk1 : lockOk q.2 h7
                  · rw [if_pos hlk1] at o7
                    try simp only [bnd] at o7
                    exact ⟨wk1.st mu7 Z7 H7 h7 sr7 e7 z7 hlk1, mu7, Z7, h7, ac, ws, sr7, p7, d1, d2, d3, rp, hl7, o7⟩
                  · rw [if_neg hlk1] at o7
                    simp only [bnd, Res.bind_bad] at o7
                    exact o7.elim
      · rw [if_neg hlk] at o2
        exact o2.elim
    · left
      have hi2 : i = p.1.length := by omega
      subst hi2
      rw [List.drop_length] at o2
      simp only [lcM] at o2
      by_cases hlk : lockOk p.2 h2
      · rw [if_pos hlk] at o2
        refine ⟨wk.st mu2 Z2 H2 h2 sr2 p2.pre p2.zm hlk, ?_⟩
        exact sr2.mkLout p2 d1 d2 d3 rp hl hD o2
      · rw [if_neg hlk] at o2
        exact o2.elim
end
section
variable {W : WXx} {X : Cx} {elt tg iter tg1 iter1 : Expr} {ifs ifs1 : List Expr} {scope : Scope} {own : List (Str × Nat)} {vs1 : List Nat} {pos : Pos} {im im1 : IM} {g g1 : GM} {ft ft1 : TM} {fe : EM}
theorem se_lc2 (hp : Bool) (hc : X.calm = true) (hN : X.N.Nodup) (hi : SI W X tg iter im) (ok : BlkOk X.N X.env.scope scope own) (hv : ∀ i ∈ vs1, i ∈ own.map (·.2))
    (hg : ∀ (s : Shared) (H : Hp) (C : Addr) (cl : List (Str × Addr)) (fp : List Addr), SGO (X.blk s H scope (compEnvC scope cl C X.env) fp) tg g (own.map (·.2)))
    (ht : ∀ (s : Shared) (H : Hp) (C : Addr) (cl : List (Str × Addr)) (fp : List Addr), STs WF (X.blk s H scope (compEnvC scope cl C X.env) fp) ifs ft)
    (hi1 : ∀ (s : Shared) (H : Hp) (C : Addr) (cl : List (Str × Addr)) (fp : List Addr), SI WF (X.blk s H scope (compEnvC scope cl C X.env) fp) tg1 iter1 im1)
    (hg1 : ∀ (s : Shared) (H : Hp) (C : Addr) (cl : List (Str × Addr)) (fp : List Addr), SGO (X.blk s H scope (compEnvC scope cl C X.env) fp) tg1 g1 vs1)
    (ht1 : ∀ (s : Shared) (H : Hp) (C : Addr) (cl : List (Str × Addr)) (fp : List Addr), STs WF (X.blk s H scope (compEnvC scope cl C X.env) fp) ifs1 ft1)
    (he : ∀ (s : Shared) (H : Hp) (C : Addr) (cl : List (Str × Addr)) (fp : List Addr), SE WF (X.blk s H scope (compEnvC scope cl C X.env) fp) elt fe) (hs : ∀ x, foldedSetIterable iter X.env x = pure x := by intro _; rfl) (hs1 : ∀ env x, foldedSetIterable iter1 env x = pure x := by intro _ _; rfl) :
    SE W X (.ListComp elt [⟨tg, iter, ifs, 0⟩, ⟨tg1, iter1, ifs1, 0⟩] scope pos) (mLc2 hp im g ft im1 g1 ft1 fe (own.map (·.2)) vs1) :=
  PE.imp (pe_lc2 (g := tGO X.K g (own.map fun p : Str × Nat => p.2)) (tt := tT X.K WF ft) (wi1 := tI X.K WF im1) (g1 := tGO X.K g1 vs1) (tt1 := tT X.K WF ft1) (te := tE X.K WF fe) hc hN hi ok hv hg ht hi1 hg1 ht1 he hs hs1) fun sg H Q o => lc2_step o
theorem ss_setLc2 (hp : Bool) {i : Nat} {y : Str} {py spos : Pos} (hc : X.calm = true) (hN : X.N.Nodup) (hy : X.N[i]? = some y) (hyl : X.env.scope.names.lookup y = some .local)
    (hsw : swapsWith (.ListComp elt [⟨tg, iter, ifs, 0⟩, ⟨tg1, iter1, ifs1, 0⟩] scope pos) (some (.Name y py)) spos.line X.env = pure true) (hi : SI W X tg iter im) (ok : BlkOk X.N X.env.scope scope own) (hv : ∀ i ∈ vs1, i ∈ own.map (·.2))
    (hg : ∀ (s : Shared) (H : Hp) (C : Addr) (cl : List (Str × Addr)) (fp : List Addr), SGO (X.blk s H scope (compEnvC scope cl C X.env) fp) tg g (own.map (·.2)))
    (ht : ∀ (s : Shared) (H : Hp) (C : Addr) (cl : List (Str × Addr)) (fp : List Addr), STs WF (X.blk s H scope (compEnvC scope cl C X.env) fp) ifs ft)
    (hi1 : ∀ (s : Shared) (H : Hp) (C : Addr) (cl : List (Str × Addr)) (fp : List Addr), SI WF (X.blk s H scope (compEnvC scope cl C X.env) fp) tg1 iter1 im1)
    (hg1 : ∀ (s : Shared) (H : Hp) (C : Addr) (cl : List (Str × Addr)) (fp : List Addr), SGO (X.blk s H scope (compEnvC scope cl C X.env) fp) tg1 g1 vs1)
    (ht1 : ∀ (s : Shared) (H : Hp) (C : Addr) (cl : List (Str × Addr)) (fp : List Addr), STs WF (X.blk s H scope (compEnvC scope cl C X.env) fp) ifs1 ft1)
    (he : ∀ (s : Shared) (H : Hp) (C : Addr) (cl : List (Str × Addr)) (fp : List Addr), SE WF (X.blk s H scope (compEnvC scope cl C X.env) fp) elt fe) (hs : ∀ x, foldedSetIterable iter X.env x = pure x := by intro _; rfl) (hs1 : ∀ env x, foldedSetIterable iter1 env x = pure x := by intro _ _; rfl) :
    SS W X (.Assign [.Name y py] (.ListComp elt [⟨tg, iter, ifs, 0⟩, ⟨tg1, iter1, ifs1, 0⟩] scope pos) spos) (sAsg (mLc2 hp im g ft im1 g1 ft1 fe (own.map (·.2)) vs1) (gN i)) :=
  PS.imp (ps_setLc2 (g := tGO X.K g (own.map fun p : Str × Nat => p.2)) (tt := tT X.K WF ft) (wi1 := tI X.K WF im1) (g1 := tGO X.K g1 vs1) (tt1 := tT X.K WF ft1) (te := tE X.K WF fe) hc hN hy hyl hsw hi ok hv hg ht hi1 hg1 ht1 he hs hs1) fun Dn sg H o => by
    refine lc2_step (W := W) (hp := hp) (im := im) (g := g) (ft := ft) (im1 := im1) (g1 := g1) (ft1 := ft1) (fe := fe) ?_
    refine tA.mono (tSv.seqE (k := fun v s h1 => stE (gN i v s h1) s fun s1 h2 => .ok (.nx s1) h2) o) fun u H1 ⟨v, q⟩ => ?_
    obtain ⟨mu, Z, h, s, sr, sl, rp, o⟩ := q
    cases rp with
    | cons r _ => exact o mu Z H1 sr (Stp.refl _ _ _) _ (sl.set i r)
end
end TB
end

section
set_option Elab.async false
set_option linter.all false
set_option maxRecDepth 100000
set_option autoImplicit false
set_option maxHeartbeats 1000000
/-! TB24: sorted(xs, key=f), f a def. -/
namespace TB
open PySem PySem.Spec PyProof.Rows L2
variable [LC] [LT]
/-- the keys of the items -/
def keysL (F : FM) : List D → List D → Hh → Res (List D)
  | [], acc, h => .ok acc h
  | x :: xs, acc, h => bnd (callOp F [x] h) fun k h1 => keysL F xs (acc ++ [k]) h1
def sortKD (ys ks : List D) : List D := ((ys.zip ks).mergeSort fun p q => leD p.2 q.2).map (·.1)
def keyedD (hp : Bool) (ys ks : List D) (h : Hh) : Res D := if srtOk ks = true then mkL hp (sortKD ys ks) h else .bad
/-- an object that is freed for our eyes -/
def freed (h : Heap) (a : Addr) : Heap := h.update a fun o => { o with data := .freed }
theorem freed_at (h : Heap) (a : Addr) : (freed h a).get? a = none := by
  unfold freed Heap.update Heap.get?
  obtain ⟨os, l⟩ := h
  simp only [Array.getElem?_modify, if_true]
  cases os[a]? <;> rfl
theorem freed_old {h : Heap} {a b : Addr} {o : Obj} (e : (freed h a).get? b = some o) : h.get? b = some o := by
  by_cases hab : a = b
  · rw [← hab, freed_at] at e; cases e
  · unfold freed at e
    rw [Heap.get?_update_other h _ hab] at e
    exact e
section
variable {X : Cx} {pins : List (Addr × Obj)} {σ : L2.St} {mu : List Addr} {Z : Hp} {h : Hh} {H : Hp} {s : Shared}
abbrev Itm := (V × D) × D
def itR (K : PySem.W.Frag) (mu : List Addr) (Z : Hp) (v : Value) (b : Itm) : Prop := RelV b.1.1 v ∧ Rep K mu Z b.1.2 b.1.1
theorem each_itm {K : PySem.W.Frag} : ∀ {xs : List V} {ys ks : List D} {its : List Value}, Vals xs its → Reps K mu Z ys xs → ks.length = ys.length → W.EachIs (itR K mu Z) its ((xs.zip ys).zip ks)
  | [], [], [], [], .nil, .nil, _ => .nil
  | x :: xs, y :: ys, k :: ks, v :: its, .cons r rs, .cons q qs, l => .cons ⟨r, q⟩ (each_itm rs qs (by simpa using l))
theorem itm_vals {K : PySem.W.Frag} : ∀ {out : List Value} {l : List Itm}, W.EachIs (itR K mu Z) out l → Vals (l.map fun b => b.1.1) out ∧ Reps K mu Z (l.map fun b => b.1.2) (l.map fun b => b.1.1)
  | _, _, .nil => ⟨.nil, .nil⟩
  | _, _, .cons h t => ⟨.cons h.1 (itm_vals t).1, .cons h.2 (itm_vals t).2⟩
theorem itm_keys : ∀ {xs : List V} {ys ks : List D}, xs.length = ys.length → ks.length = ys.length → ((xs.zip ys).zip ks).map (fun b => toPy b.2) = ks.map toPy
  | [], [], [], _, _ => rfl
  | x :: xs, y :: ys, k :: ks, l1, l2 => by
    simp only [List.zip_cons_cons, List.map_cons]
    rw [itm_keys (by simpa using l1) (by simpa using l2)]
theorem itm_pairs : ∀ {xs : List V} {ys ks : List D}, xs.length = ys.length → ks.length = ys.length → ((xs.zip ys).zip ks).map (fun b => (b.1.2, b.2)) = ys.zip ks
  | [], [], [], _, _ => rfl
  | x :: xs, y :: ys, k :: ks, l1, l2 => by
    simp only [List.zip_cons_cons, List.map_cons]
    rw [itm_pairs (by simpa using l1) (by simpa using l2)]
theorem itm_sort {xs : List V} {ys ks : List D} (l1 : xs.length = ys.length) (l2 : ks.length = ys.length) : ((((xs.zip ys).zip ks).mergeSort (W.dataLe false fun b : Itm => toPy b.2)).map fun b => b.1.2) = sortKD ys ks := by
  unfold sortKD
  rw [← itm_pairs l1 l2, ← W.sort_maps (r := W.dataLe false fun b : Itm => toPy b.2) (fun b : Itm => (b.1.2, b.2)) fun a _ b _ => rfl, List.map_map]
  rfl
theorem each_reads {its : List Value} {us : List V} {ds : List PyData} (I : Inv X pins σ H s) (e : W.EachIs (Dp X.K H) us ds) (r : Vals us its) : W.EachIs (fun v d => ∃ as, Reads s.heap v d as) its ds := by
  induction e generalizing its with
  | nil => cases r; exact .nil
  | cons h t ih =>
    cases r with
    | cons r rs => exact .cons (Dp.reads I _ _ _ h r) (ih rs)
/-- the loop over the items -/
theorem keys_loop {f a kS : Addr} {F : FM} {KF : Hp → Prop} {ys : List D} {xs : List V} {its : List Value} {e1 : Nat} {hp : Bool} {Q : VK} {P : PySem.Fin → Shared → Prop} {E : Value → Shared → Prop}
    (hk : ∀ mu' Z' H', Stp mu Z H mu' Z' H' → KF H')
    (call : ∀ (s1 : Shared) (H1 : Hp) (u : Value) (v : V) (Q' : VK), Inv X pins σ H1 s1 → KF H1 → RelV v u → spF X.K 1 F [v] H1 Q' (fun _ _ _ => False) → codeAny (model X.prog X.w) X.A.in1.in1 (.call (.ref f) ⟨[u], []⟩) (CR CX0 X.stack X.prog X.w H1 s1 Q' (fun _ _ _ => False)) s1)
    (hu : X.A.units + 66 < cLine)
    (I : Inv X pins σ H s) (sr : SR X.K mu Z H h) (rp : Reps X.K mu Z ys xs) (rv : Vals xs its) (hz : xs.length ≤ sizeLine)
    (fa : FpOk X pins H a) (fk : FpOk X pins H kS) (ne : kS ≠ a) (oa : s.heap.get? a = some (seqObj "list" #[] e1)) (ok : s.heap.get? kS = some (seqObj "list" #[] 0))
    (o : Out X.K mu Z H (bnd (keysL F ys [] h) fun ks h1 => keyedD hp ys ks h1) (fun _ _ _ => False) fun v mu' Z' H' _ => ∀ u, Rep X.K mu' Z' v u → Q u H')
    (fin : ∀ s', EP X pins σ Q (.ref a) s' → P (.done (.ret .none)) s') :
    wpAny (model X.prog X.w) X.A.in1.in1 (ksk_rest a (.ref f) false its.toArray e1 (.ref kS)) P E s := by
  unfold ksk_rest
  refine wpAny_bind (wpAny_rule ?_)
  rw [List.forIn_toArray]
  refine wpAny_bind (ksk_fold (fun i s' => ∃ mu' Z' H' h' ks us, Inv X pins σ H' s' ∧ SR X.K mu' Z' H' h' ∧ Stp mu Z H mu' Z' H' ∧ FpOk X pins H' a ∧ FpOk X pins H' kS ∧ s'.heap.get? a = some (seqObj "list" #[] e1) ∧
    (∃ its' e, s'.heap.get? kS = some (seqObj "list" its' e) ∧ Vals us its'.toList) ∧ Reps X.K mu' Z' ks us ∧ ks.length = i ∧
    Out X.K mu Z H (bnd (keysL F (ys.drop i) ks h') fun ks h1 => keyedD hp ys ks h1) (fun _ _ _ => False) fun v mu' Z' H' _ => ∀ u, Rep X.K mu' Z' v u → Q u H') its 0 s
    ⟨mu, Z, H, h, [], [], I, sr, Stp.refl _ _ _, fa, fk, oa, ⟨#[], 0, ok, .nil⟩, .nil, rfl, o⟩ ?step ?done)
  case step =>
    rintro j x s1 hx ⟨mu1, Z1, H1, h1, ks, us, I1, sr1, p1, fa1, fk1, oa1, ⟨ia, e, ok1, rk⟩, rp1, hl, o1⟩
    simp only [Nat.zero_add] at hl o1 ⊢
    have hj : j < its.length := (List.getElem?_eq_some_iff.mp hx).1
    have l1 := rv.length
    have l2 := rp.length
    have hjx : j < xs.length := by omega
    have hjy : j < ys.length := by omega
    obtain ⟨x', hx', rx⟩ := rv.get (List.getElem?_eq_getElem hjx)
    obtain rfl : x' = x := Option.some.inj (hx'.symm.trans hx)
    obtain ⟨xv, hxv, ry⟩ := rp.get (List.getElem?_eq_getElem hjy)
    obtain rfl : xv = xs[j] := Option.some.inj (hxv.symm.trans (List.getElem?_eq_getElem hjx))
    have ed : ys.drop j = ys[j] :: ys.drop (j + 1) := List.drop_eq_getElem_cons hjy
    rw [ed] at o1
    simp only [keysL] at o1
    cases ec : callOp F [ys[j]] h1 with
    | ex y h2 => simp only [ec, bnd] at o1; exact o1.elim
    | bad => simp only [ec, bnd] at o1; exact o1.elim
    | ok kd h2 =>
      simp only [ec, bnd] at o1
      have sp : spF X.K 1 F [xs[j]] H1 (fun u H' => ∃ mu2 Z2, SR X.K mu2 Z2 H' h2 ∧ Stp mu1 Z1 H1 mu2 Z2 H' ∧ Rep X.K mu2 Z2 kd u) (fun _ _ _ => False) := call_ok (W := fun _ _ _ => False) sr1 (.cons (p1.rep ry) .nil) rfl (by
        rw [ec]
        intro mu2 Z2 H2 sr2 p2 u ru
        exact ⟨mu2, Z2, sr2, p2, ru⟩)
      refine wpAny_bind (wpAny_attempt (wpAny_call (codeAny_mono (call s1 H1 x' xs[j] _ I1 (hk _ _ _ p1) rx sp) fun r s2 hq => ?_)))
      cases r with
      | error e => exact hq.elim
      | ok fl =>
        cases fl with
        | ret u =>
          obtain ⟨kv, H2, os, bare, un, hok, rel, mu2, Z2, sr2, p2, ru⟩ := hq
          have I2 : Inv X pins σ H2 s2 := I1.call' (ch := []) os un hok bare fun _ z => nomatch z
          have nfs : ∀ b, FpOk X pins H1 b → b ∉ frs X.stack := fun b fb z => (List.mem_cons.mp (I1.stkSub _ z)).elim fb.2.1 fb.2.2.1
          have kp : ∀ b ob, FpOk X pins H1 b → s1.heap.get? b = some ob → s2.heap.get? b = some ob ∧ FpOk X pins H2 b := fun b ob fb eb =>
            ⟨un.keep b ob eb fb.1 (nfs b fb) (by simp), un.free b ob eb fb.1 (by simp), fb.2⟩
          obtain ⟨oa2, fa2⟩ := kp _ _ fa1 oa1
          obtain ⟨ok2, fk2⟩ := kp _ _ fk1 ok1
          have lr := rk.length
          have lp := rp1.length
          have lz : ia.size ≤ sizeLine := by
            have : ia.toList.length = ia.size := Array.length_toList
            omega
          try dsimp only
          refine wpAny_bind (listUpdate_at ok2 rfl ?_ lz (by rw [Array.size_push]; omega))
          have sb := Heap.SameBut.update s2.heap kS (Obj.mapSeq (·.push u))
          have I3 : Inv X pins σ H2 { s2 with heap := s2.heap.update kS (Obj.mapSeq (·.push u)) } := I2.turnedL (ch := [kS]) (t' := s2.toks) (fun b ob nb eb => (sb.2 b fun z => nb (by simp [z])).trans eb) fun b z => by
            rw [List.mem_singleton.mp z]; exact fk2
          obtain ⟨c2, hc2⟩ : ∃ c2, (s2.heap.update kS (Obj.mapSeq (·.push u))).get? kS = some (seqObj "list" (ia.push u) c2) := ⟨_, get?_update_seq ok2 (·.push u)⟩
          have p3 := p1.trans p2
          refine wpAny_pure ⟨rfl, mu2, Z2, H2, h2, ks ++ [kd], us ++ [kv], I3, sr2, p3, fa2, fk2, (sb.2 a ne.symm).trans oa2, ⟨_, c2, hc2, ?_⟩, (p2.reps rp1).append (.cons ru .nil), by simp [hl], ?_⟩
          · rw [Array.toList_push]
            exact rk.append (.cons rel .nil)
          · exact o1
        | next => exact False.elim hq
        | brk => exact False.elim hq
        | cont => exact False.elim hq
  case done =>
    rintro s1 ⟨mu1, Z1, H1, h1, ks, us, I1, sr1, p1, fa1, fk1, oa1, ⟨ia, e, ok1, rk⟩, rp1, hl, o1⟩
    simp only [Nat.zero_add] at hl o1
    have l1 := rv.length
    have l2 := rp.length
    have lr := rk.length
    have lp := rp1.length
    have li : ia.toList.length = ia.size := Array.length_toList
    rw [List.drop_of_length_le (by omega)] at o1
    simp only [keysL, bnd, keyedD] at o1
    try dsimp only
    refine wpAny_bind (listItems_at ok1 rfl ?_)
    by_cases hk : srtOk ks = true
    · rw [if_pos hk] at o1
      obtain ⟨k1, k2, k3, k4⟩ := srt_facts hk
      have lx : xs.length = ys.length := l2.symm
      have lk : ks.length = ys.length := by omega
      have rd := each_reads I1 (each_dp sr1.zin rp1 k1) rk
      have hR := each_itm (ks := ks) rv (p1.reps rp) lk
      obtain ⟨m1, z1⟩ := sr1.fresh fa1.1
      refine W.keyH_end (κ := W.dataKind s1.heap (ks.map toPy)) (h₁ := freed s1.heap kS) (fun b ob _ eb => freed_old eb) (freed_at _ _) ok1 oa1 ne (W.SortsAt.data rd k2 k3 fun d hd => ?_) (by omega) (by omega) fun h3 tk3 c kp at3 => ?_
      · have := k4 d hd
        show X.A.in1.in1.units + _ < _
        have e1 : X.A.in1.in1.units = X.A.units + 2 := rfl
        rw [e1]; omega
      · have ko : W.KeyedOut false (((xs.zip ys).zip ks).map fun b : Itm => toPy b.2) its (W.sortVals (W.dataKind s1.heap (ks.map toPy)) false ia.toList its) := by
          rw [itm_keys lx lk]
          exact ⟨s1.heap, ia.toList, k2, rfl, rd⟩
        have eo := itm_vals (W.keyedOut_each (fun b : Itm => toPy b.2) ko hR)
        rw [itm_sort lx lk] at eo
        have I2 : Inv X pins σ H1 { s1 with heap := h3, toks := tk3 } := I1.turnedL (ch := [a, kS]) (fun b ob nb eb => kp b ob (fun z => nb (by simp [z])) (by
          unfold freed
          rw [Heap.get?_update_other _ _ fun z => nb (by simp [z])]
          exact eb)) fun b z => by
            rcases List.mem_cons.mp z with z | z
            · rw [z]; exact fa1
            · rw [List.mem_singleton.mp z]; exact fk1
        have ln : ((((xs.zip ys).zip ks).mergeSort (W.dataLe false fun b : Itm => toPy b.2)).map fun b => b.1.1).length ≤ sizeLine := by
          rw [List.length_map, List.length_mergeSort]
          simp only [List.length_zip]
          omega
        have I3 := I2.take (it := a) (h' := h3) (t' := tk3) (o := .lst ((((xs.zip ys).zip ks).mergeSort (W.dataLe false fun b : Itm => toPy b.2)).map fun b => b.1.1)) (fun _ _ _ e => e) fa1 ⟨ln, _, c, eo.1, at3⟩
        refine fin _ ⟨.ref a, _, I3, rfl, ?_⟩
        exact (sr1.updF m1 z1 (.non fa1.1) _).mkLout (p1.updF fa.1 _) m1 z1 upd_same eo.2 (by rw [eo.2.length]; exact ln) fa.1 o1
    · rw [if_neg hk] at o1
      exact o1.elim
/-- sorted(xs, key=f) of one argument and f that does F as long as KF says so -/
def rSortFn (X : Cx) (hp : Bool) (KF : Addr → Hp → Prop) (F : FM) : List V → List V → Hp → VK → Prop := fun vs zs H Q => ∃ f v mu Z h x ys, vs = [v] ∧ zs = [.ref f] ∧ SR X.K mu Z H h ∧ Rep X.K mu Z x v ∧ colOf h x = some ys ∧ (∀ mu' Z' H', Stp mu Z H mu' Z' H' → KF f H') ∧
  Out X.K mu Z H (bnd (keysL F ys [] h) fun ks h1 => keyedD hp ys ks h1) (fun _ _ _ => False) fun v mu' Z' H' _ => ∀ u, Rep X.K mu' Z' v u → Q u H'
/-- f, called, does F -/
def Does (X : Cx) (KF : Addr → Hp → Prop) (F : FM) : Prop := ∀ (f : Addr) (pins : List (Addr × Obj)) (σ : L2.St) (s1 : Shared) (H1 : Hp) (u : Value) (v : V) (Q' : VK), Inv X pins σ H1 s1 → KF f H1 → RelV v u → spF X.K 1 F [v] H1 Q' (fun _ _ _ => False) →
  codeAny (model X.prog X.w) X.A.in1.in1 (.call (.ref f) ⟨[u], []⟩) (CR CX0 X.stack X.prog X.w H1 s1 Q' (fun _ _ _ => False)) s1
theorem cr_sortFn {KF : Addr → Hp → Prop} {F : FM} {hp : Bool} (hc : X.calm = true) (hu : X.A.units + 66 < cLine) (call : Does X KF F) :
    CallRK X (.builtin "sorted") [Str.ofString "key"] (rSortFn X hp KF F) := by
  intro pins s σ H vs zs us ws Q I r rz hh
  obtain ⟨f, v, mu, Z, h, x, ys, rfl, rfl, sr, rx, ec, hk, o⟩ := hh
  obtain ⟨u, rfl, ru⟩ := vals1 r
  obtain ⟨w1, rfl, e1⟩ := vals1 rz
  obtain rfl : w1 = Value.ref f := e1
  obtain ⟨xs, hcol, rp, hly⟩ := sr.col rx ec
  have l2 := rp.length
  refine PyProof.Rows.call_function_entry_kw PyProof.Rows.kind_sorted PyProof.Rows.plain_sorted PyProof.Rows.entry_sorted (PyProof.Rows.ksk_s1 _ _) ?_
  unfold Builtin.«sorted»
  refine wpAny_bind (m := checkCount "sorted" 1 1 _) (wpAny_pure ?_)
  refine wpAny_bind (col_run hc I ru hcol fun hz h' tk its kp rv => ?_)
  have I1 : Inv X pins σ H { s with heap := h', toks := tk } := I.kept kp
  have l1 := rv.length
  have hzi : its.length ≤ sizeLine := by omega
  refine wpAny_bind (wpAny_newList ?_ hzi)
  have hoL : (h'.push (seqObj "list" its.toArray 0)).get? h'.objs.size = some (seqObj "list" its.toArray 0) := Heap.get?_push_size _ rfl
  refine wpAny_bind (wpAny_holding (PyProof.Rows.wpAny_call_entry_kw PyProof.Rows.slot_list_sort ⟨_, hoL, rfl⟩ PyProof.Rows.entry_list_sort ?body (PyProof.Rows.ksk_l1 _ _)))
  case body =>
    show wpAny (model X.prog X.w) X.A.in1.in1 (Builtin.«list.sort» ⟨[.ref h'.objs.size], [(Str.ofString "key", .ref f)]⟩) _ _ _
    rw [PyProof.Rows.ksk_t1]
    unfold ksk_tree
    refine wpAny_bind (listItems_at hoL rfl ?_)
    refine wpAny_bind (listUpdate_at hoL rfl ?_ (by rw [List.size_toArray]; exact hzi) (Nat.zero_le _))
    obtain ⟨e1, ho1⟩ : ∃ e1, ((h'.push (seqObj "list" its.toArray 0)).update h'.objs.size (Obj.mapSeq fun _ => (#[] : Array Value))).get? h'.objs.size = some (seqObj "list" #[] e1) := ⟨_, get?_update_seq hoL fun _ => #[]⟩
    refine wpAny_bind (seqEpoch_at ho1 rfl ?_)
    refine wpAny_bind (wpAny_newTuple ?_ (by show its.length ≤ _; exact hzi))
    refine wpAny_bind (wpAny_newList ?_ (Nat.zero_le _))
    refine wpAny_holding ?_
    have sz : (((h'.push (seqObj "list" its.toArray 0)).update h'.objs.size (Obj.mapSeq fun _ => (#[] : Array Value))).push (seqObj "tuple" its.toArray 0)).objs.size = h'.objs.size + 2 := by
      rw [PyProof.Rows.size_push', Heap.size_update, PyProof.Rows.size_push']
    have old : ∀ b ob, h'.get? b = some ob → ((((h'.push (seqObj "list" its.toArray 0)).update h'.objs.size (Obj.mapSeq fun _ => (#[] : Array Value))).push (seqObj "tuple" its.toArray 0)).push (seqObj "list" #[] 0)).get? b = some ob := fun b ob eb =>
      Heap.get?_push_of_some _ (Heap.get?_push_of_some _ (Heap.get?_update_of_ne _ (Nat.ne_of_gt (Heap.lt_size eb)) (Heap.get?_push_of_some _ eb)))
    have I2 : Inv X pins σ H { s with heap := (((h'.push (seqObj "list" its.toArray 0)).update h'.objs.size (Obj.mapSeq fun _ => (#[] : Array Value))).push (seqObj "tuple" its.toArray 0)).push (seqObj "list" #[] 0), toks := tk } := I1.kept old
    refine keys_loop (X := X) (pins := pins) (σ := σ) (hp := hp) (Q := Q) hk (fun s1 H1 u v Q' J kf ru sp => call f pins σ s1 H1 u v Q' J kf ru sp) hu I2 sr rp rv hz (I1.fpOk (Nat.le_refl _) (I1.hok.fresh (Nat.le_refl _))) (I1.fpOk (b := _) (by rw [sz]; exact Nat.le_add_right _ 2) (I1.hok.fresh (by rw [sz]; exact Nat.le_add_right _ 2))) (by rw [sz]; exact Nat.ne_of_gt (Nat.lt_add_of_pos_right (by decide)))
      (Heap.get?_push_of_some _ (Heap.get?_push_of_some _ ho1)) (Heap.get?_push_size _ rfl) o fun s' ep => ?_
    exact ⟨_, rfl, wpAny_pure ⟨_, rfl, ep⟩⟩
end
def sortKOp (hp : Bool) (F : FM) (xs : List D) (h : Hh) : Res D := match xs with
  | [x] => match colOf h x with
    | some ys => bnd (keysL F ys [] h) fun ks h1 => keyedD hp ys ks h1
    | none => .bad
  | _ => .bad
theorem keyedD_noex {hp : Bool} {ys ks : List D} {h : Hh} {K : PySem.W.Frag} {mu : List Addr} {Z H : Hp} {W : Value → Option Addr → Hp → Prop} {k : D → List Addr → Hp → Hp → Hh → Prop} (o : Out K mu Z H (keyedD hp ys ks h) W k) : Out K mu Z H (keyedD hp ys ks h) (fun _ _ _ => False) k := by
  unfold keyedD at o ⊢
  split at o
  · rename_i q
    rw [if_pos q]
    unfold mkL at o ⊢
    split at o <;> rename_i z <;> simp only [z] <;> exact o
  · exact o.elim
theorem sortK_noex {hp : Bool} {F : FM} {ys : List D} {K : PySem.W.Frag} {mu : List Addr} {Z H : Hp} {W : Value → Option Addr → Hp → Prop} {k : D → List Addr → Hp → Hp → Hh → Prop} : ∀ {xs acc : List D} {h : Hh}, Out K mu Z H (bnd (keysL F xs acc h) fun ks h1 => keyedD hp ys ks h1) W k → Out K mu Z H (bnd (keysL F xs acc h) fun ks h1 => keyedD hp ys ks h1) (fun _ _ _ => False) k
  | [], acc, h, o => keyedD_noex o
  | x :: xs, acc, h, o => by
    simp only [keysL] at o ⊢
    cases e : callOp F [x] h with
    | ok v h1 =>
      simp only [e] at o ⊢
      exact sortK_noex (xs := xs) o
    | ex y h1 => simp only [e, bnd] at o; exact o.elim
    | bad => simp only [e, bnd] at o; exact o.elim
section
variable {W : WXx} {X : Cx} {e : Expr} {fr : AM} {p p2 pos kpos : Pos} {x : Str} {k : Nat} {F : FM}
theorem se_sortFn (hp : Bool) (c : Cb X.prog X.w X.K X.mg X.base k x 1 F) (hr : Room (k + 2) X.A) (hc : X.calm = true) (hu : X.A.units + 66 < cLine) (hg : Gl X "sorted") (hm : X.mg "sorted" = none) (hx : Gl X x) (ha : SA W X [e] fr)
    (hdb : (x == ("__debug__" : Str)) = false := by decide)
    (he : backTo pos (starEach [e] X.env) = (false, eval e X.env) :: backTo pos (starEach [] X.env) := by rfl) (hpl : (backTo pos (starEach [e] X.env)).any (·.1) = false := by rfl)
    (hall : (backToKw pos (keywordEach [⟨some "key", .Name x p2, kpos⟩] X.env)).all (·.1.isSome) = true := by rfl) (hnone : (backToKw pos (keywordEach [⟨some "key", .Name x p2, kpos⟩] X.env)).any (·.1.isNone) = false := by rfl) (hks : (backToKw pos (keywordEach [⟨some "key", .Name x p2, kpos⟩] X.env)).filterMap (·.1) = [Str.ofString "key"] := by rfl) :
    SE W X (.Call (.Name "sorted" p) [e] [⟨some "key", .Name x p2, kpos⟩] pos) (mApp (sortKOp hp F) fr) := by
  obtain ⟨f, fd, ps, c1, c2, c3, c4⟩ := c.ex
  have dd : Does X (fun g _ => g = f) F := fun g pins σ s1 H1 u v Q' J eg ru sp => by
    subst eg
    have bt := c4 s1 [u] J.kIn (by have := c1.len _ _ _ _ sp; simpa using this)
    rw [List.append_nil] at bt
    exact c1.run X.A.in1.in1 X.stack s1 H1 ⟨[u], []⟩ [u] [v] _ _ hr.in1.in1 J.env0.in1.in1 bt (.cons ru .nil) sp
  refine PE.imp (pe_callBK (cr_sortFn (hp := hp) hc hu dd) hg hm rfl ha (pk_cons (pe_glob (v := .ref f) hx c2 rfl hdb) pk_nil) (by decide) (by decide) he hpl hall hnone hks) fun sg H Q o => ?_
  refine tAs.mono (seqAs o) fun us H1 ⟨xs, q⟩ => ?_
  replace q := tA.one (f := sortKOp hp F) q
  obtain ⟨mu, Z, h, sr, rp, o⟩ := q
  unfold sortKOp at o
  split at o
  · rename_i d
    split at o
    · rename_i ys ec
      cases rp with
      | cons r rp =>
        cases rp
        exact ⟨_, _, mu, Z, h, d, ys, rfl, rfl, sr, r, ec, fun _ _ _ _ => rfl, sortK_noex o⟩
    · exact o.elim
  · exact o.elim
end
end TB
end

section
set_option Elab.async false
set_option linter.all false
set_option maxRecDepth 100000
set_option autoImplicit false
set_option maxHeartbeats 1000000
/-! TB25: the module's own constants. -/
namespace TB
open PySem PySem.Spec PyProof.Rows L2
variable [LC] [LT]
section
variable {W : WXx} {X : Cx} {x : Str} {pos : Pos}
theorem se_globI {i : Int} (hg : Gl X x) (h : ∃ t, X.mg x = some (.int i t)) (hd : (x == ("__debug__" : Str)) = false := by decide) : SE W X (.Name x pos) (mC (.int i)) := by
  obtain ⟨t, h⟩ := h
  exact se_glob hg h (v := .int i) ⟨t, rfl⟩ (fun _ _ => .int i) hd
theorem se_globS {y : Str} (hg : Gl X x) (h : ∃ t, X.mg x = some (.str y t)) (hy : sOkB y = true := by decide +kernel) (hd : (x == ("__debug__" : Str)) = false := by decide) : SE W X (.Name x pos) (mC (.str y)) := by
  obtain ⟨t, h⟩ := h
  exact se_glob hg h (v := .str y) ⟨t, rfl⟩ (fun _ _ => .str (sOk_of hy)) hd
end
end TB
end

section
set_option Elab.async false
set_option linter.all false
set_option maxRecDepth 100000
set_option autoImplicit false
set_option maxHeartbeats 1000000
/-! TB26: dicts of texts and ints: {}, d.get, d.setdefault, d.update. -/
namespace TB
open PySem PySem.Spec PyProof.Rows L2
variable [LC] [LT]
/-- {} -/
def mDict0 : EM := fun _ h => mkC [] h
section
variable {W : WXx} {X : Cx} {o e e2 : Expr} {fo : EM} {fr : AM} {pos apos cpos : Pos}
theorem se_dict0 : SE W X (.Dict [] [] pos) mDict0 := PE.imp pe_dnewK fun sg H Q o => by
  obtain ⟨mu, Z, h, s, sr, sl, _, o⟩ := o
  intro p hp
  obtain ⟨f1, f2⟩ := sr.fresh hp
  have pg := pre_get (mu := mu) (mu' := mu ++ [p]) ⟨[p], rfl⟩
  refine o (mu ++ [p]) Z _ ?_ ?_ _ (.ref (by rw [← sr.len]; simp))
  · have sr' := sr.updF f1 f2 (.non hp) (.dK [])
    refine ⟨sr'.zin, by simp [sr.len], ?_, fun a ha => ?_, fun n ob a e1 e2 => ?_, sr'.tb⟩
    · rw [List.nodup_append]
      refine ⟨sr.nd, by simp, fun a ha b hb e => ?_⟩
      simp at hb; subst hb; subst e; exact f1 ha
    · simp at ha
      rcases ha with ha | ha
      · exact sr.sep a ha
      · rw [ha]; exact f2
    · by_cases hn' : n < h.length
      · rw [List.getElem?_append_left hn'] at e1
        rw [List.getElem?_append_left (by rw [sr.len]; exact hn')] at e2
        exact (sr'.cell n ob a e1 e2).mono pg (Sub.refl _) fun q e => e
      · have : n = h.length := by
          have := (List.getElem?_eq_some_iff.mp e1).1
          simp at this; omega
        subst this
        rw [List.getElem?_append_right (Nat.le_refl _)] at e1
        simp at e1; subst e1
        rw [← sr.len, List.getElem?_append_right (Nat.le_refl _)] at e2
        simp at e2; subst e2
        exact ⟨[], upd_same, rfl, ⟨fun k hk => by simp at hk, Nat.zero_le _⟩, .nil⟩
  · have p1 := (Stp.refl mu Z H).updF hp (.dK [])
    refine ⟨⟨[p], rfl⟩, p1.zm, p1.fr, fun a ha => ?_, p1.nz, p1.al⟩
    simp at ha
    rcases ha with ha | ha
    · exact .inl ha
    · rw [ha]; exact .inr hp
/-- d.get(k), d.get(k, x) -/
def rGet : V → List V → Hp → VK → Prop := fun x xs H Q => (∃ a y r, x = .ref a ∧ xs = [y] ∧ DGet H a y r ∧ Q (r.getD .non) H) ∨ ∃ a y z r, x = .ref a ∧ xs = [y, z] ∧ DGet H a y r ∧ Q (r.getD z) H
theorem mt_get (hu : X.A.units + 65 < cLine) : MtR X "dict.get" rGet := by
  intro pins s σ H x xs v us Q I rx rs h
  rcases h with ⟨a, y, r, rfl, rfl, g, q⟩ | ⟨a, y, z, r, rfl, rfl, g, q⟩
  · cases rx
    obtain ⟨u, rfl, ru⟩ := vals1 rs
    exact d_get1 (by omega) I g ru fun w' s3 I3 rw' => ⟨_, H, I3, rw', q⟩
  · cases rx
    obtain ⟨u1, u2, rfl, r1, r2⟩ := vals2 rs
    exact d_get2 (by omega) I g r1 r2 fun w' s3 I3 rw' => ⟨_, H, I3, rw', q⟩
def getOp (x : D) (xs : List D) (h : Hh) : Res D := match dcOf h x, xs with
  | some ks, [y] => match keyOf y with
    | some k => .ok ((valD ks k).getD .non) h
    | none => .bad
  | some ks, [y, z] => match keyOf y with
    | some k => .ok ((valD ks k).getD z) h
    | none => .bad
  | _, _ => .bad
theorem opM_get {K : PySem.W.Frag} : OpM K rGet getOp := by
  intro W x u xs us sg H Q o
  replace o := o.met
  obtain ⟨mu, Z, h, sr, rx, rp, o⟩ := o
  unfold getOp at o
  split at o
  · rename_i ks y e1
    split at o
    · rename_i k e2
      cases rp with
      | cons ry rp =>
        cases rp
        obtain ⟨p, kvs, rfl, hd, ek, _, rv⟩ := sr.dc rx e1
        have ev := keyOf_rep ry e2
        refine .inl ⟨p, _, _, rfl, rfl, .inl ⟨kvs, k, hd, ev, rfl⟩, ?_⟩
        rcases valD_rep ek rv k with ⟨q1, q2⟩ | ⟨d, t, q1, q2, q3⟩
        · rw [q1] at o; rw [q2]; exact Out.val sr rfl .non o
        · rw [q1] at o; rw [q2]; exact Out.val sr rfl q3 o
    · exact o.elim
  · rename_i ks y z e1
    split at o
    · rename_i k e2
      cases rp with
      | cons ry rp =>
        cases rp with
        | cons rz rp =>
          cases rp
          obtain ⟨p, kvs, rfl, hd, ek, _, rv⟩ := sr.dc rx e1
          have ev := keyOf_rep ry e2
          refine .inr ⟨p, _, _, _, rfl, rfl, .inl ⟨kvs, k, hd, ev, rfl⟩, ?_⟩
          rcases valD_rep ek rv k with ⟨q1, q2⟩ | ⟨d, t, q1, q2, q3⟩
          · rw [q1] at o; rw [q2]; exact Out.val sr rfl rz o
          · rw [q1] at o; rw [q2]; exact Out.val sr rfl q3 o
    · exact o.elim
  · exact o.elim
theorem se_get {es : List Expr} (hu : X.A.units + 65 < cLine) (ho : SE W X o fo) (ha : SA W X (e :: es) fr)
    (hbase : attributeBase o "get" X.env (eval o X.env) = eval o X.env := by rfl)
    (hfew : ((backTo cpos (starEach (e :: es) X.env)).all (fun x => !x.1) && (backToKw cpos (keywordEach [] X.env)).all (fun x => x.1.isSome)
      && decide ((e :: es).length + ([] : List Keyword).length + (if ([] : List Keyword).isEmpty then 0 else 1) < 30)) = true := by rfl)
    (hline : (apos.endLine == cpos.line) = true := by rfl) (hs : starEach (e :: es) X.env = (false, eval e X.env) :: starEach es X.env := by rfl) (hplain : (backTo cpos (starEach es X.env)).any (·.1) = false := by rfl) :
    SE W X (.Call (.Attribute o "get" apos) (e :: es) [] cpos) (mMet .dic getOp fo fr) :=
  se_met (T := .dic) (.inr (.inl rfl)) PySem.F.plainAttrs_dict PySem.F.slot_dict_get PySem.F.type_dict_get (mt_get hu) opM_get ho ha hbase hfew hline hs hplain
end
end TB
end

section
set_option Elab.async false
set_option linter.all false
set_option maxRecDepth 100000
set_option autoImplicit false
set_option maxHeartbeats 1000000
/-! TB27: o[i] = v of a list or a dict that changes; d.setdefault. -/
namespace TB
open PySem PySem.Spec PyProof.Rows L2
variable [LC] [LT]
def setAOp (o i v : D) (h : Hh) : Res Unit := match o with
  | .ref n => match h[n]? with
    | some (.lst xs) => match i with
      | .int k => match ixN xs.length k with
        | some j => .ok () (h.set n (.lst (xs.set j v)))
        | none => .bad
      | _ => .bad
    | some (.dic ks) => match keyOf i with
      | some k => if ks.length < sizeLine then .ok () (h.set n (.dic (putD ks k v))) else .bad
      | none => .bad
    | _ => .bad
  | _ => .bad
def gSetA (fo fi : EM) : GM := fun v s h => (fo s h).bind fun o h1 => (fi s h1).bind fun i h2 => (setAOp o i v h2).bind fun _ h3 => .ok s h3
theorem key_ok {K : PySem.W.Frag} {mu : List Addr} {Z : Hp} {d : D} {v : V} {k : Key} (r : Rep K mu Z d v) (e : keyOf d = some k) : KOk k := by
  unfold keyOf at e
  split at e <;> try cases e
  · exact True.intro
  · cases r with
    | str hz => exact hz
theorem put_ok {k : Key} {d : D} {ks : List (Key × D)} (hk : KOk k) (h : ∀ k', k' ∈ ks.map (·.1) → KOk k') : ∀ k', k' ∈ (putD ks k d).map (·.1) → KOk k' := by
  intro k' m
  unfold putD at m
  split at m
  · rw [map_keys] at m; exact h k' m
  · rw [List.map_append, List.mem_append] at m
    rcases m with m | m
    · exact h k' m
    · simp at m; rw [m]; exact hk
theorem SR.setD {K : PySem.W.Frag} {mu : List Addr} {Z H : Hp} {h : Hh} {n : Nat} {ks : List (Key × D)} {kvs : List (Key × V)} {a : Addr} {k : Key} {d : D} {v : V} (sr : SR K mu Z H h) (hm : mu[n]? = some a) (r : Rep K mu Z d v) (hk : KOk k)
    (e : ks.map (·.1) = kvs.map (·.1)) (ok : (∀ k, k ∈ ks.map (·.1) → KOk k) ∧ ks.length ≤ sizeLine) (rp : Reps K mu Z (ks.map (·.2)) (kvs.map (·.2))) (hl : ks.length < sizeLine) :
    SR K mu Z (upd H a (.dK (putK kvs k v))) (h.set n (.dic (putD ks k d))) ∧ Stp mu Z H mu Z (upd H a (.dK (putK kvs k v))) :=
  sr.setM hm _ _ ⟨_, upd_same, put_keys e, ⟨put_ok hk ok.1, by have := putD_len (k := k) (d := d) ks; omega⟩, put_reps r e rp⟩
section
variable {W : WXx} {X : Cx} {a b : Expr} {fa fb : EM} {pos : Pos}
theorem set_any (hu : X.A.units + 65 < cLine) : PSet X fun o i v H Q => rSetL o i v H Q ∨ rSetD o i v H Q := fun pins s σ H o i v ov iv u Q I ro ri rv h =>
  h.elim (set_list pins s σ H o i v ov iv u Q I ro ri rv) (set_dict (by omega) pins s σ H o i v ov iv u Q I ro ri rv)
theorem sg_setA (hu : X.A.units + 65 < cLine) (ho : SE W X a fa) (hi : SE W X b fb)
    (hs : ∀ v, assign (.Subscript a b pos) X.env v = (do
      let ov ← holding [v] (eval a X.env)
      let iv ← holding [v, ov] (eval b X.env)
      standAt pos
      holding [v, ov, iv] (setItem ov iv v)
      release [v, ov, iv] []) := by intro _; rfl) : SG W X (.Subscript a b pos) (gSetA fa fb) :=
  PG.imp (pg_sub ho hi (set_any hu) hs) fun v sg H Q o => by
    obtain ⟨mu, Z, h, s, d, sr, sl, r, o⟩ := o
    unfold gSetA at o
    refine ⟨mu, Z, h, s, sr, sl, .nil, ?_⟩
    cases ea : fa s h with
    | ex x h1 => simp only [ea, Res.bind_ex] at o; exact o
    | bad => simp only [ea, Res.bind_bad] at o; exact o.elim
    | ok ov h1 =>
      simp only [ea, Res.bind_ok] at o
      intro mu1 Z1 H1 sr1 p1 uo ro
      have o1 := Out.mono p1 o fun _ _ _ _ _ _ q => q
      refine ⟨mu1, Z1, h1, s, sr1, sl.mono p1, .nil, ?_⟩
      cases eb : fb s h1 with
      | ex x h1 => simp only [eb, Res.bind_ex] at o1; exact o1
      | bad => simp only [eb, Res.bind_bad] at o1; exact o1.elim
      | ok iv h2 =>
        simp only [eb, Res.bind_ok] at o1
        intro mu2 Z2 H2 sr2 p2 ui ri
        have o2 := Out.mono p2 o1 fun _ _ _ _ _ _ q => q
        have ro2 := p2.rep ro
        have r2 := (p1.trans p2).rep r
        unfold setAOp at o2
        split at o2
        · rename_i n
          cases ro2 with
          | ref hm =>
            split at o2
            · rename_i xs hx
              split at o2
              · rename_i k
                cases ri
                split at o2
                · rename_i j hj
                  obtain ⟨l, vs, e1, rp⟩ := sr2.cell n _ _ hx hm
                  obtain ⟨q1, q2⟩ := sr2.setL (j := j) hm hx r2 e1 rp l
                  refine .inl ⟨_, vs, k, j, rfl, rfl, e1, by rw [← rp.length]; exact hj, ?_⟩
                  exact o2 _ _ _ q1 q2 _ ((sl.mono p1).mono (p2.trans q2))
                · exact o2.elim
              · exact o2.elim
            · rename_i ks hx
              split at o2
              · rename_i k ek
                split at o2
                · rename_i hl
                  obtain ⟨kvs, e1, e2, ok, rp⟩ := sr2.cell n _ _ hx hm
                  obtain ⟨q1, q2⟩ := sr2.setD (k := k) hm r2 (key_ok ri ek) e2 ok rp hl
                  have lk : kvs.length < sizeLine := by
                    have := congrArg List.length e2
                    simp at this
                    omega
                  refine .inr ⟨_, _, rfl, .inl ⟨kvs, k, e1, keyOf_rep ri ek, lk, rfl⟩, ?_⟩
                  exact o2 _ _ _ q1 q2 _ ((sl.mono p1).mono (p2.trans q2))
                · exact o2.elim
              · exact o2.elim
            · exact o2.elim
        · exact o2.elim
end
end TB
end

section
set_option Elab.async false
set_option linter.all false
set_option maxRecDepth 100000
set_option autoImplicit false
set_option maxHeartbeats 1000000
/-! TB28: d.setdefault. -/
namespace TB
open PySem PySem.Spec PyProof.Rows L2
variable [LC] [LT]
section
variable {W : WXx} {X : Cx} {o e f : Expr} {fo : EM} {fr : AM} {pos apos cpos : Pos}
def rSetd : V → List V → Hp → VK → Prop := fun x xs H Q => ∃ a kvs k z, x = .ref a ∧ xs = [kV k, z] ∧ H a = some (.dK kvs) ∧ kvs.length < sizeLine ∧ (∀ v, valV kvs k = some v → Q v H) ∧ (valV kvs k = none → Q z (upd H a (.dK (putK kvs k z))))
theorem mt_setd : MtR X "dict.setdefault" rSetd := by
  intro pins s σ H x xs v us Q I rx rs h
  obtain ⟨a, kvs, k, z, rfl, rfl, ha, hl, q1, q2⟩ := h
  cases rx
  obtain ⟨u1, u2, rfl, r1, r2⟩ := vals2 rs
  exact d_setd I ha r1 r2 hl (fun v hv w' s4 I4 rw' => ⟨v, _, I4, rw', q1 v hv⟩) fun hn w' s4 I4 rw' => ⟨z, _, I4, rw', q2 hn⟩
def setdOp (x : D) (xs : List D) (h : Hh) : Res D := match cellD h x, xs with
  | some (n, ks), [y, z] => match keyOf y with
    | some k => if ks.length < sizeLine then (match valD ks k with
      | some v => .ok v h
      | none => .ok z (h.set n (.dic (putD ks k z)))) else .bad
    | none => .bad
  | _, _ => .bad
theorem opM_setd {K : PySem.W.Frag} : OpM K rSetd setdOp := by
  intro W x u xs us sg H Q o
  replace o := o.met
  obtain ⟨mu, Z, h, sr, rx, rp, o⟩ := o
  unfold setdOp at o
  split at o
  · rename_i n ks y z e1
    split at o
    · rename_i k e2
      split at o
      · rename_i hl
        cases rp with
        | cons ry rp =>
          cases rp with
          | cons rz rp =>
            cases rp
            obtain ⟨a, kvs, rfl, hm, ha, ek, ok, rv⟩ := sr.cD rx e1
            have ev := keyOf_rep ry e2
            have lk : kvs.length < sizeLine := by
              have := congrArg List.length ek
              simp at this
              omega
            subst ev
            refine ⟨a, kvs, k, _, rfl, rfl, ha, lk, fun v hv => ?_, fun hn => ?_⟩
            · rcases valD_rep ek rv k with ⟨q1, q2⟩ | ⟨d, t, q1, q2, q3⟩
              · rw [q2] at hv; cases hv
              · rw [q2] at hv; cases hv
                simp only [q1] at o
                exact Out.val sr rfl q3 o
            · rcases valD_rep ek rv k with ⟨q1, q2⟩ | ⟨d, t, q1, q2, q3⟩
              · simp only [q1] at o
                exact Out.wrD sr hm (put_keys ek) ⟨putD_ok ok.1 (keyOf_ok ry e2), by have := putD_len (k := k) (d := z) ks; omega⟩ (put_reps rz ek rv) rfl rz o
              · rw [q2] at hn; cases hn
      · exact o.elim
    · exact o.elim
  · exact o.elim
theorem se_setd (ho : SE W X o fo) (ha : SA W X [e, f] fr)
    (hbase : attributeBase o "setdefault" X.env (eval o X.env) = eval o X.env := by rfl)
    (hfew : ((backTo cpos (starEach [e, f] X.env)).all (fun x => !x.1) && (backToKw cpos (keywordEach [] X.env)).all (fun x => x.1.isSome)
      && decide ([e, f].length + ([] : List Keyword).length + (if ([] : List Keyword).isEmpty then 0 else 1) < 30)) = true := by rfl)
    (hline : (apos.endLine == cpos.line) = true := by rfl) (hs : starEach [e, f] X.env = (false, eval e X.env) :: starEach [f] X.env := by rfl) (hplain : (backTo cpos (starEach [f] X.env)).any (·.1) = false := by rfl) :
    SE W X (.Call (.Attribute o "setdefault" apos) [e, f] [] cpos) (mMet .dic setdOp fo fr) :=
  se_met (T := .dic) (.inr (.inl rfl)) PySem.F.plainAttrs_dict PySem.F.slot_dict_setdefault PySem.F.type_dict_setdefault mt_setd opM_setd ho ha hbase hfew hline hs hplain
end
end TB
end

section
set_option Elab.async false
set_option linter.all false
set_option maxRecDepth 100000
set_option autoImplicit false
set_option maxHeartbeats 1000000
/-! TB29: max, min, sum. -/
namespace TB
open PySem PySem.Spec PyProof.Rows L2
variable [LC] [LT]
section
variable {W : WXx} {X : Cx} {e e2 : Expr} {fr : AM} {p pos : Pos}
theorem se_max1 (hc : X.calm = true) (hg : Gl X "max") (hm : X.mg "max" = none) (ha : SA W X [e] fr) (he : starEach [e] X.env = (false, eval e X.env) :: starEach [] X.env := by rfl) (hpl : (backTo pos (starEach [] X.env)).any (·.1) = false := by rfl) :
    SE W X (.Call (.Name "max" p) [e] [] pos) (mApp max1Op fr) := se_callB (cr_max hc) opA_max1 hg hm rfl ha (by decide) (by decide) he hpl
theorem se_min1 (hc : X.calm = true) (hg : Gl X "min") (hm : X.mg "min" = none) (ha : SA W X [e] fr) (he : starEach [e] X.env = (false, eval e X.env) :: starEach [] X.env := by rfl) (hpl : (backTo pos (starEach [] X.env)).any (·.1) = false := by rfl) :
    SE W X (.Call (.Name "min" p) [e] [] pos) (mApp min1Op fr) := se_callB (cr_min hc) opA_min1 hg hm rfl ha (by decide) (by decide) he hpl
theorem se_max2 (hc : X.calm = true) (hg : Gl X "max") (hm : X.mg "max" = none) (ha : SA W X [e, e2] fr) (he : starEach [e, e2] X.env = (false, eval e X.env) :: starEach [e2] X.env := by rfl) (hpl : (backTo pos (starEach [e2] X.env)).any (·.1) = false := by rfl) :
    SE W X (.Call (.Name "max" p) [e, e2] [] pos) (mApp max2Op fr) := se_callB (call_max2 hc) opA_max2 hg hm rfl ha (by decide) (by decide) he hpl
theorem se_min2 (hc : X.calm = true) (hg : Gl X "min") (hm : X.mg "min" = none) (ha : SA W X [e, e2] fr) (he : starEach [e, e2] X.env = (false, eval e X.env) :: starEach [e2] X.env := by rfl) (hpl : (backTo pos (starEach [e2] X.env)).any (·.1) = false := by rfl) :
    SE W X (.Call (.Name "min" p) [e, e2] [] pos) (mApp min2Op fr) := se_callB (call_min2 hc) opA_min2 hg hm rfl ha (by decide) (by decide) he hpl
theorem se_sum1 (hc : X.calm = true) (hg : Gl X "sum") (hm : X.mg "sum" = none) (ha : SA W X [e] fr) (he : starEach [e] X.env = (false, eval e X.env) :: starEach [] X.env := by rfl) (hpl : (backTo pos (starEach [] X.env)).any (·.1) = false := by rfl) :
    SE W X (.Call (.Name "sum" p) [e] [] pos) (mApp sumOp fr) := se_callB (cr_sum hc) opA_sum hg hm rfl ha (by decide) (by decide) he hpl
end
end TB
end

section
set_option Elab.async false
set_option linter.all false
set_option maxRecDepth 100000
set_option autoImplicit false
set_option maxHeartbeats 1000000
/-! TB30: a list times an int. -/
namespace TB
open PySem PySem.Spec PyProof.Rows L2
variable [LC] [LT]
def repOp (hp : Bool) (x y : D) (h : Hh) : Res D := match lsOf h x, y with
  | some xs, .int k => if (decide (-(2 ^ 63) ≤ k) && (decide (k < 2 ^ 63) && decide (xs.length * k.toNat ≤ sizeLine))) = true then mkL hp (List.replicate k.toNat xs).flatten h else .bad
  | _, _ => .bad
theorem reps_flat {K : PySem.W.Frag} {mu : List Addr} {Z : Hp} {xs : List D} {vs : List V} (r : Reps K mu Z xs vs) : ∀ n : Nat, Reps K mu Z (List.replicate n xs).flatten (List.replicate n vs).flatten
  | 0 => .nil
  | n + 1 => by
    rw [List.replicate_succ, List.replicate_succ, List.flatten_cons, List.flatten_cons]
    exact r.append (reps_flat r n)
theorem op2_rep {K : PySem.W.Frag} {hp : Bool} : Op2 K rRep (repOp hp) := by
  intro W x y u v sg H Q o
  replace o := o.open2
  obtain ⟨mu, Z, h, s, sr, sl, rx, ry, o⟩ := o
  unfold repOp at o
  split at o
  · rename_i xs k e1
    split at o
    · rename_i hc
      simp only [Bool.and_eq_true, decide_eq_true_eq] at hc
      obtain ⟨a, vs, rfl, q1, p1⟩ := sr.ls rx e1
      cases ry
      have lv := p1.length
      refine ⟨a, k, vs, rfl, rfl, q1, hc.1, hc.2.1, by rw [← lv]; exact hc.2.2, fun p hp => ?_⟩
      exact sr.newL (reps_flat p1 k.toNat) (by simpa [Nat.mul_comm] using hc.2.2) hp o
    · exact o.elim
  · exact o.elim
section
variable {W : WXx} {X : Cx} {a b : Expr} {fa fb : EM} {pos : Pos}
theorem se_rep (hp : Bool) (ha : SE W X a fa) (hb : SE W X b fb) : SE W X (.BinOp a .Mult b pos) (m2 (repOp hp) fa fb) := se_bin op_rep op2_rep ha hb
end
end TB
end

section
set_option Elab.async false
set_option linter.all false
set_option maxRecDepth 100000
set_option autoImplicit false
set_option maxHeartbeats 1000000
/-! TB31: lambdas without captured names as keys. -/
namespace TB
open PySem PySem.Spec PyProof.Rows L2
variable [LC] [LT]
/-- the object at f is that lambda -/
def LamO (f : Addr) (qual : Str) (params : Arguments) (body : Expr) (scope : Scope) (c' : Addr) : HO := .ext fun h => ∃ pm ctv : Value, h.get? f = some (PySem.W.kla_obj "<lambda>" qual params body scope [] pm c' ctv)
theorem lamO_ne {f : Addr} {q : Str} {pa : Arguments} {b : Expr} {sc : Scope} {c : Addr} (ps : Array Value) : LamO f q pa b sc c ≠ .tbl ps := fun z => by
  unfold LamO at z
  cases z
theorem clo0 {cells : List (Str × Addr)} {names : List (Str × NameKind)} (h : ∀ y ∈ names, y.2 ≠ .free) : cloFrom cells names [] = [] := by
  refine List.eq_nil_iff_forall_not_mem.mpr fun p hp => ?_
  rcases cloFrom_mem hp with hm | ⟨h1, _⟩
  · cases hm
  · exact h _ h1 rfl
section
variable {X : Cx} {pins : List (Addr × Obj)} {σ : L2.St} {H : Hp} {s : Shared}
theorem inv_lam {q : Str} {pa : Arguments} {b : Expr} {sc : Scope} {c' : Addr} {o : Obj} {t' : Nat} {pm ctv : Value} (I : Inv X pins σ H s) (ho : o = PySem.W.kla_obj "<lambda>" q pa b sc [] pm c' ctv) :
    Inv X pins σ (upd H s.heap.objs.size (LamO s.heap.objs.size q pa b sc c')) { s with heap := s.heap.push o, toks := t' } := by
  subst ho
  refine I.laid (a := s.heap.objs.size) (fun b u e => Heap.get?_push_of_some _ e) (Nat.le_refl _) ?_
  have e : (s.heap.push (PySem.W.kla_obj "<lambda>" q pa b sc [] pm c' ctv)).get? s.heap.objs.size = some (PySem.W.kla_obj "<lambda>" q pa b sc [] pm c' ctv) := Heap.get?_push_size _ rfl
  exact ⟨⟨pm, ctv, e⟩, ⟨_, e⟩, fun h1 h2 ⟨p, t, z⟩ st => ⟨p, t, st _ z⟩⟩
/-- the place where a lambda's code is told -/
structure LamT (base : Heap) (mg : Str → Option Value) (cd : Value) (q : Str) : Prop where
  ex : ∃ c P, cd = .ref c ∧ LamX.TabB base mg c P ∧ (P, q) ∈ LT.T ∧ ∀ p ∈ LT.T, p.1 = P → p.2 = q
theorem lam_mk {params : Arguments} {body : Expr} {scope : Scope} {pos : Pos} {E : Value → Shared → Prop} {Q : Value → Shared → Prop} (I : Inv X pins σ H s) (L : LamT X.base X.mg X.env.code (X.env.qual ++ "<lambda>")) (hT : LamX.Tabs LT.T H)
    (hdef : defaultsOf params X.env = ([], [])) (hfree : ∀ y ∈ scope.names, y.2 ≠ .free)
    (h : ∀ (f c' : Addr) (H1 : Hp) (s' : Shared), Inv X pins σ H1 s' → LamX.ExtN H H1 → (∀ b, H1 b = Option.none → H b = Option.none) → LamX.Tabs LT.T H1 → H f = none → H1 f = some (LamO f (X.env.qual ++ "<lambda>") params body scope c') → H1 c' = some (LamX.CodeO c' (X.env.qual ++ "<lambda>")) → Q (.ref f) s') :
    wpAny (model X.prog X.w) X.A (eval (.Lambda params body scope pos) X.env) Q E s := by
  obtain ⟨c, P, hcode, TB, hm, hu⟩ := L.ex
  obtain ⟨ps, hP, ht, ha⟩ := hT _ hm
  have bP : s.heap.BuiltinsAt X.mg P := TB.bm.keeps I.bk
  have hP' : s.heap.get? P = some { cls := .none, data := .fields ps } := I.hok P _ hP
  have hcl : closureFor scope X.env = pure [] := by
    have z := closure_ok (scope := scope) (env := X.env) (fun y hy e => absurd e (hfree y hy))
    rw [clo0 hfree] at z
    exact z
  refine PySem.W.kla_eval hdef ?_
  cases hc : codeAmong pos ps.toList with
  | none =>
    refine PySem.W.kla_makeFunction (mg := X.mg) (c := c) (P := P) (ps := ps) hcl I.ok.glob (I.mod.glob.keeps I.bk) hcode (TB.code.keeps I.bk) hP' ht hc TB.gP bP fun c' ctv h' tk hx hge hlt hrec htb => ?_
    obtain ⟨c2, oc, vs, t, e2, hoc, hd, hv⟩ := hrec
    cases e2
    have nC : H c' = none := I.hok.fresh hge
    have I1 := LamX.inv_table (t' := tk) (more := #[rawInt pos.line, rawInt pos.col, .ref c']) (h' := h') I hP (fun b o hb e => hx b o hb e) htb hge ⟨oc, vs, t, hoc, hd, hv⟩
    have hE : LamX.ExtN H (upd (upd H P (.tbl (ps ++ #[rawInt pos.line, rawInt pos.col, .ref c']))) c' (LamX.CodeO c' (X.env.qual ++ "<lambda>"))) := fun b o e n => by
      rw [upd_ne (ne_of_none e nC), upd_ne (fun z => n ps (Option.some.inj (e.symm.trans (by rw [z]; exact hP))))]
      exact e
    have eL : (ps ++ #[rawInt pos.line, rawInt pos.col, .ref c']).toList = ps.toList ++ [rawInt pos.line, rawInt pos.col, .ref c'] := by simp
    have T1 : LamX.Tabs LT.T (upd (upd H P (.tbl (ps ++ #[rawInt pos.line, rawInt pos.col, .ref c']))) c' (LamX.CodeO c' (X.env.qual ++ "<lambda>"))) := fun p hp => by
      by_cases hb : p.1 = P
      · rw [hu p hp hb, hb]
        refine ⟨_, by rw [upd_ne (ne_of_none hP nC), upd_same], by rw [eL]; exact PySem.TriplesOk_snoc _ _ _ _ ht, fun p' cv hcv => ?_⟩
        rw [eL] at hcv
        rcases LamX.among_app _ ht hcv with z | z
        · obtain ⟨c0, e1, e2⟩ := ha p' cv z
          exact ⟨c0, e1, hE _ _ e2 LamX.codeO_ne⟩
        · exact ⟨c', z, upd_same⟩
      · obtain ⟨ps', a1, a2, a3⟩ := hT p hp
        refine ⟨ps', by rw [upd_ne (ne_of_none a1 nC), upd_ne hb]; exact a1, a2, fun p' cv hcv => ?_⟩
        obtain ⟨c0, e1, e2⟩ := a3 p' cv hcv
        exact ⟨c0, e1, hE _ _ e2 LamX.codeO_ne⟩
    have nF := I1.hok.fresh (Nat.le_refl _)
    have I2 := inv_lam (q := X.env.qual ++ "<lambda>") (pa := params) (b := body) (sc := scope) (c' := c') (t' := tk) (pm := (X.mg "__name__").getD .none) (ctv := ctv) I1 rfl
    refine h h'.objs.size c' _ _ I2 (fun b o e n => ?_) (fun b e => NdefX.upd_none (NdefX.upd_none (NdefX.upd_none e))) (LamX.Tabs.ext T1 fun b o e => ?_) (I.hok.fresh (Nat.le_trans hge (Nat.le_of_lt hlt))) upd_same ?_
    · have e1 := hE b o e n
      exact (upd_ne (ne_of_none e1 nF)).trans e1
    · exact (upd_ne (ne_of_none e nF)).trans e
    · exact (upd_ne (Nat.ne_of_lt hlt)).trans upd_same
  | some cv =>
    obtain ⟨c', e, hco⟩ := ha pos cv hc
    subst e
    refine PySem.W.kla_makeFunctionHit (mg := X.mg) (c := c) (P := P) (ps := ps) hcl I.ok.glob (I.mod.glob.keeps I.bk) hcode (TB.code.keeps I.bk) hP' ht hc bP fun ctv h' tk hx hsz => ?_
    have I1 : Inv X pins σ H { s with heap := h', toks := tk } := I.kept hx
    have nF : H h'.objs.size = none := I1.hok.fresh (Nat.le_refl _)
    have I2 := inv_lam (q := X.env.qual ++ "<lambda>") (pa := params) (b := body) (sc := scope) (c' := c') (t' := tk) (pm := (X.mg "__name__").getD .none) (ctv := ctv) I1 rfl
    refine h h'.objs.size c' _ _ I2 (fun b o e n => ?_) (fun b e => NdefX.upd_none e) (LamX.Tabs.ext hT fun b o e => ?_) nF upd_same ?_
    · exact (upd_ne (ne_of_none e nF)).trans e
    · exact (upd_ne (ne_of_none e nF)).trans e
    · exact (upd_ne (ne_of_none hco nF)).trans hco
end
/-- the lambda as the frame of its body sees it -/
abbrev lamF (qual : Str) (params : Arguments) (scope : Scope) (c' : Addr) : NdefX.NF := ⟨"<lambda>", qual, params, [], scope, [], c'⟩
section
variable {P : Program} {w : World} {K : PySem.W.Frag} {mg : Str → Option Value} {base : Heap} {N ps : List Str} {qual : Str} {params : Arguments} {body : Expr} {scope : Scope} {k : Nat} {fe : EM}
theorem lam_call {f c' : Addr} (S : NdefX.NScope N ps [] scope) (hb : ∀ (pm ctv : Value) (us : List Value), us.length = ps.length → bindArgs (PySem.W.kla_fn "<lambda>" qual params body scope [] pm (.ref c') ctv) ⟨us, []⟩ = pure (ps.zip us))
    (hbody : ∀ (A : Around) (outer : List Env) (s : Shared) (H : Hp) (E : XK), Room k (A.deeper (NdefX.envF (lamF qual params scope c') f s.heap.objs.size)) → SE WF (NdefX.ncx CX0 P w K mg base N (lamF qual params scope c') f A outer s H E).nox body fe)
    (A : Around) (outer : List Env) (s : Shared) (H : Hp) (us : List Value) (vs : List V) (Q : VK) (E : XK) (hr : Room (k + 1) A) (e0 : Env0 P w K mg base A outer s H) (hf : H f = some (LamO f qual params body scope c')) (hc : H c' = some (LamX.CodeO c' qual)) (r : Vals vs us)
    (hsp : spF K ps.length (callF false (sRet fe) N.length) vs H Q E) : codeAny (model P w) A (.call (.ref f) ⟨us, []⟩) (CR CX0 outer P w H s Q E) s := by
  obtain ⟨hl, mu, Z, h, ds, sr, rp, o⟩ := hsp
  have lim : s.heap.NoLimit := e0.mod.nolimit.keeps fun b o e => (e0.bs b o e).1
  obtain ⟨⟨pm, ctv, ho⟩, _, _⟩ := e0.hok f _ hf
  refine PySem.W.kla_callFunE hr.depth ho rfl S.co S.gen rfl (NdefX.codeO_at e0.hok hc) ?_
  rw [hb pm ctv us (by rw [← r.length]; exact hl)]
  refine wpAny_pure (wpAny_newFunctionEnv S.nocell (fun ⟨n, _⟩ hy => S.par n (List.of_mem_zip hy).1) (fun h₁ hns hsb => ⟨lim.fresh _ hsb, ?_⟩) S.kind)
  show codeAny _ _ (.expr body (NdefX.envF (lamF qual params scope c') f s.heap.objs.size)) _ _
  have kp : ∀ b o, s.heap.get? b = some o → h₁.get? b = some o := fun b o e => hsb.extBut b o (Nat.ne_of_lt (Heap.lt_size e)) (Heap.get?_push_of_some _ e)
  have nope : ∀ (y : Str) (c : Addr), (lamF qual params scope c').cl.lookup y = some c → False := fun y c e => by
    have e' : (none : Option Addr) = some c := e
    cases e'
  have C : NdefX.CellsAt (lamF qual params scope c').cl [] [] s.heap H := ⟨rfl, fun y c e => (nope y c e).elim, fun x y c e => (nope x c e).elim, fun i y e => by simp at e⟩
  have I : Inv (NdefX.ncx CX0 P w K mg base N (lamF qual params scope c') f A outer s H E) [] (NdefX.startF N vs []) H { s with heap := h₁, toks := s.toks + (ps.zip us).length } := NdefX.inv_startN S hr.hd e0 hl r C hns kp
  have est : NdefX.startF N vs [] = L2.start N vs := by simp [NdefX.startF, L2.start]
  rw [est] at I
  refine PySem.W.kla_codeExpr (wpAny_mono ((hbody A outer s H E (hr.deeper _)).nox.run [] _ _ H Q I ?_) (fun v s' hq => ?_) fun e s' hq => hq)
  · refine ⟨mu, Z, h, startD N.length ds, sr, sltR_start N rp, .nil, ?_⟩
    unfold callF sRet at o
    cases e : fe (startD N.length ds) h with
    | ok v h1 =>
      simp only [e, Res.bind_ok] at o
      exact fun mu1 Z1 H1 sr1 p1 u ru => fin_ok sr sr1 p1 ru o
    | ex x h1 => simp only [e, Res.bind_ex] at o; exact o.elim
    | bad => simp only [e, Res.bind_bad] at o; exact o.elim
  · obtain ⟨w', H', J', rv, q⟩ := hq
    exact ⟨w', H', J'.os, J'.bare, J'.base, J'.hok, rv, q⟩
end
section
variable {K : PySem.W.Frag} {mu : List Addr} {Z H H1 : Hp} {h : Hh}
theorem SR.ext (sr : SR K mu Z H h) (eN : LamX.ExtN H H1) (nn : ∀ b, H1 b = none → H b = none) (T1 : LamX.Tabs LT.T H1) : SR K mu Z H1 h ∧ Stp mu Z H mu Z H1 := by
  refine ⟨⟨fun a o e => eN a o (sr.zin a o e) fun ps z => sr.tb.z a ps (by rw [e, z]), sr.len, sr.nd, sr.sep, fun n ob a e1 e2 => (sr.cell n ob a e1 e2).mono (fun _ _ z => z) (Sub.refl _) fun o e => eN a o e ((sr.cell n ob a e1 e2).ntb o e).1, ⟨T1, sr.tb.z⟩⟩,
    ⟨[], by simp⟩, Sub.refl _, fun a o e _ ht => eN a o e ht, fun a hm => .inl hm, fun a o e => .inl e, fun a o e => ?_⟩
  cases q : H1 a with
  | none => rw [nn a q] at e; cases e
  | some o' => exact ⟨o', rfl⟩
end
/-- what making a lambda asks and tells -/
def tLamK (q : Str) (params : Arguments) (body : Expr) (scope : Scope) : TE := fun _ H Q => LamX.Tabs LT.T H ∧ ∀ (f c' : Addr) (H1 : Hp), LamX.ExtN H H1 → (∀ b, H1 b = none → H b = none) → LamX.Tabs LT.T H1 → H f = none → H1 f = some (LamO f q params body scope c') → H1 c' = some (LamX.CodeO c' q) → Q (.ref f) H1
section
variable {W : WXx} {X : Cx} {e body : Expr} {params : Arguments} {scope : Scope} {lpos : Pos} {fr : AM} {p pos kpos : Pos} {k : Nat} {fe : EM} {N ps : List Str}
theorem pe_lam (L : LamT X.base X.mg X.env.code (X.env.qual ++ "<lambda>")) (hdef : defaultsOf params X.env = ([], [])) (hfree : ∀ y ∈ scope.names, y.2 ≠ .free) : PE X (.Lambda params body scope lpos) (tLamK (X.env.qual ++ "<lambda>") params body scope) := by
  refine ⟨fun pins s σ H Q I hh => ?_⟩
  obtain ⟨hT, hh⟩ := hh
  exact lam_mk I L hT hdef hfree fun f c' H1 s' I1 eN nn T1 f0 f1 c1 => ⟨.ref f, H1, I1, rfl, hh f c' H1 eN nn T1 f0 f1 c1⟩
theorem se_sortLam (hp : Bool) (L : LamT X.base X.mg X.env.code (X.env.qual ++ "<lambda>")) (hr : Room (k + 3) X.A) (hc : X.calm = true) (hu : X.A.units + 66 < cLine) (hg : Gl X "sorted") (hm : X.mg "sorted" = none) (ha : SA W X [e] fr)
    (S : NdefX.NScope N ps [] scope) (hps : ps.length = 1) (hb : ∀ (q : Str) (c' : Addr) (pm ctv : Value) (us : List Value), us.length = ps.length → bindArgs (PySem.W.kla_fn "<lambda>" q params body scope [] pm (.ref c') ctv) ⟨us, []⟩ = pure (ps.zip us))
    (hbody : ∀ (f c' : Addr) (A : Around) (outer : List Env) (s : Shared) (H : Hp) (E : XK), Room k (A.deeper (NdefX.envF (lamF (X.env.qual ++ "<lambda>") params scope c') f s.heap.objs.size)) → SE WF (NdefX.ncx CX0 X.prog X.w X.K X.mg X.base N (lamF (X.env.qual ++ "<lambda>") params scope c') f A outer s H E).nox body fe)
    (hdef : defaultsOf params X.env = ([], []) := by rfl) (hfree : ∀ y ∈ scope.names, y.2 ≠ .free := by decide +kernel)
    (he : backTo pos (starEach [e] X.env) = (false, eval e X.env) :: backTo pos (starEach [] X.env) := by rfl) (hpl : (backTo pos (starEach [e] X.env)).any (·.1) = false := by rfl)
    (hall : (backToKw pos (keywordEach [⟨some "key", .Lambda params body scope lpos, kpos⟩] X.env)).all (·.1.isSome) = true := by rfl) (hnone : (backToKw pos (keywordEach [⟨some "key", .Lambda params body scope lpos, kpos⟩] X.env)).any (·.1.isNone) = false := by rfl) (hks : (backToKw pos (keywordEach [⟨some "key", .Lambda params body scope lpos, kpos⟩] X.env)).filterMap (·.1) = [Str.ofString "key"] := by rfl) :
    SE W X (.Call (.Name "sorted" p) [e] [⟨some "key", .Lambda params body scope lpos, kpos⟩] pos) (mApp (sortKOp hp (callF false (sRet fe) N.length)) fr) := by
  have dd : Does X (fun f H => ∃ c', H f = some (LamO f (X.env.qual ++ "<lambda>") params body scope c') ∧ H c' = some (LamX.CodeO c' (X.env.qual ++ "<lambda>"))) (callF false (sRet fe) N.length) := fun f pins σ s1 H1 u v Q' J kf ru sp => by
    obtain ⟨c', h1, h2⟩ := kf
    rw [← hps] at sp
    exact lam_call S (hb _ c') (fun A outer s H E hr' => hbody f c' A outer s H E hr') X.A.in1.in1 X.stack s1 H1 [u] [v] Q' _ hr.in1.in1 J.env0.in1.in1 h1 h2 (.cons ru .nil) sp
  refine PE.imp (pe_callBK (cr_sortFn (hp := hp) hc hu dd) hg hm rfl ha (pk_cons (pe_lam L hdef hfree) pk_nil) (by decide) (by decide) he hpl hall hnone hks) fun sg H Q o => ?_
  refine tAs.mono (seqAs o) fun us H1 ⟨xs, q⟩ => ?_
  replace q := tA.one (f := sortKOp hp (callF false (sRet fe) N.length)) q
  obtain ⟨mu, Z, h, sr, rp, o⟩ := q
  refine ⟨sr.tb.t, fun f c' H2 eN nn T1 f0 f1 c1 => ?_⟩
  obtain ⟨sr2, p2⟩ := sr.ext eN nn T1
  have hm1 : f ∉ mu := (sr.fresh f0).1
  unfold sortKOp at o
  split at o
  · rename_i d
    split at o
    · rename_i ys ec
      cases rp with
      | cons r rp =>
        cases rp
        refine ⟨f, _, mu, Z, h, d, ys, rfl, rfl, sr2, r, ec, fun mu' Z' H' p' => ⟨c', p'.fr _ _ f1 hm1 lamO_ne, p'.fr _ _ c1 (fun hm => (sr2.ntb hm _ c1).2 _ _ rfl) LamX.codeO_ne⟩, ?_⟩
        exact Out.mono p2 (sortK_noex o) fun _ _ _ _ _ _ q => q
    · exact o.elim
  · exact o.elim
end
end TB
end

section
set_option Elab.async false
set_option linter.all false
set_option maxRecDepth 100000
set_option autoImplicit false
set_option maxHeartbeats 1000000
/-! TB32: the end of a law whose defs make lambdas. -/
namespace TB
open PySem PySem.Spec PyProof.Rows L2
theorem tabIn_code {K : PySem.W.Frag} {x : Str} {p c P : Addr} {oc : Value} {od : Option Addr} {fd : FuncData} {sl : Array (Option Value)} (a : PySem.W.nsIn K mainGlobals x = some (some (.ref p))) (l : K.lookup p = some ⟨oc, od, .func fd, sl⟩) (u : PySem.W.tabIn K x = some (c, P)) : fd.code = .ref c := by
  unfold PySem.W.tabIn at u
  rw [a] at u
  simp only [l] at u
  split at u
  · rename_i c2 hc
    split at u
    · split at u
      · cases u; exact hc
      · cases u
    · cases u
  · cases u
theorem tabIn_of {K : PySem.W.Frag} {x : Str} {p c P : Addr} {oc e : Value} {od d : Option Addr} {fd : FuncData} {sl sl' : Array (Option Value)} {vs : Array Value} (a : PySem.W.nsIn K mainGlobals x = some (some (.ref p))) (l : K.lookup p = some ⟨oc, od, .func fd, sl⟩) (hc : fd.code = .ref c)
    (u : K.lookup c = some ⟨e, d, .fields vs, sl'⟩) (v : vs[11]? = some (.ref P)) : PySem.W.tabIn K x = some (c, P) := by
  unfold PySem.W.tabIn
  rw [a]
  simp only [l, hc, u, v]
/-- what is known of the law's def: xs, the defs with lambdas; T, their tables -/
def LawAt (P : Program) (w : World) (K : PySem.W.Frag) (mg : Str → Option Value) (k : Nat) (fa : Addr) (xs : List Str) (F : FM) : Prop :=
  ∃ (fd : FuncData) (cs : List (Str × Addr × Addr)) (T : List (Addr × Str)) (lc : LC), (∀ p ∈ cs, p.1 ∈ xs ∧ PySem.W.tabIn K p.1 = some p.2 ∧ K.lookup p.2.2 = none) ∧ (∀ p ∈ T, ∃ c ∈ cs, c.2.2 = p.1) ∧
    (∀ (s : Shared) (u : Value), BindsTo s fd ⟨[u], []⟩ [("script", u)]) ∧
    ∀ base : Heap, K.In base → base.Ns mainGlobals mg → (∀ p ∈ cs, LamX.TabB base mg p.2.1 p.2.2) → FnOk P w K mg base CX0 k fa fd ["script"] (@spF lc ⟨T⟩ K 1 F)
theorem walk_law {l : PySem.W.OpenLaw} {k : Nat} {q : Program} {loose : List Str} {XP : (Str → Option Value) → Heap → Prop} {YP : World → Heap → Prop} {d : DefRec} {K : Params → PySem.W.Frag} (xs : List Str) (F : FM)
    (hn : l.most = some 63) (hdf : d.params.defaults = []) (hr : Room k callerA) (hY : ∀ (w : World) (h : Heap), YP w h → (K w.params).In h)
    (hrec : (xs.all fun x => (recsOf q).any fun e => e.name == x) = true)
    (hF : ∀ (w : World) (mg : Str → Option Value) (fa : Addr) (h : Heap), (K w.params).In h → h.Ns mainGlobals mg → mg d.name = some (.ref fa) → LawAt l.prog w (K w.params) mg k fa xs F)
    (pure : ∀ ns : List Int, ns.length ≤ 63 → ∃ h', F [.scr ns] [] = .ok (.bl true) h') :
    PySem.W.WalkO q loose XP YP l.row.toRowW d [] (fun f vs => PySem.call f vs) := by
  refine Att.attach_callB hn hdf fun w s₀ s₁ mg mb fa o pm cd doc a vs ns G Y ho hd hcd hmg hobj hints hlen hbits hg => ?_
  have KX := hY w _ Y
  obtain ⟨fd, cs, T, lc, h1, h2, h3, h4⟩ := hF w mg fa _ KX G.T.g hmg
  have key : ∀ p ∈ cs, PySem.W.CodeHd s₁.heap p.2.1 p.2.2 ∧ s₁.heap.get? p.2.2 = some (PySem.W.tabObj #[]) := fun p hp => by
    obtain ⟨a1, a2, _⟩ := h1 p hp
    have a3 := List.all_eq_true.mp hrec _ a1
    obtain ⟨e, he, hq⟩ := List.any_eq_true.mp a3
    cases hf : (recsOf q).find? (fun e => e.name == p.1) with
    | none => exact absurd hq (by simpa using List.find?_eq_none.mp hf e he)
    | some d' => exact PySem.W.tab_of G.T KX hf a2
  have back : ∀ {p : Addr × Addr}, p ∈ cs.map (·.2) → ∃ x ∈ cs, x.2 = p := fun hp => List.mem_map.mp hp
  refine LamX.law_callTs (cs := cs.map (·.2)) (CX := CX0) (sp := @spF lc ⟨T⟩ (K w.params) 1 F) (x := "script") KX G.T.g G.T.b G.T.builtins G.T.nolimit hg (fun p hp => ?_) (fun p hp => ?_) (fun p hp => ?_) G.T.bmain hobj hints (Nat.le_trans hlen (by decide)) hr (fun base b1 b2 b3 => h4 base b1 b2 fun p hp => b3 _ (List.mem_map.mpr ⟨p, hp, rfl⟩)) h3 (fun H hH hS => ?_) fun H e s' z => z
  · obtain ⟨x, hx, rfl⟩ := back hp
    exact (key x hx).2
  · obtain ⟨x, hx, rfl⟩ := back hp
    exact (h1 x hx).2.2
  · obtain ⟨x, hx, rfl⟩ := back hp
    exact (key x hx).1
  · refine @law_sp lc ⟨T⟩ _ H a ns F (fun p hp => ?_) hlen hS (pure ns hlen)
    obtain ⟨c, hc, e⟩ := h2 p hp
    exact LamX.TabS.nil (by rw [← e]; exact hH _ (List.mem_map.mpr ⟨c, hc, rfl⟩))
section
variable [LC] [LT] {P : Program} {w : World} {K : PySem.W.Frag} {mg : Str → Option Value} {base : Heap} {x qual : Str} {st : Stmt} {f : Addr} {fd : FuncData} {N ps : List Str} {k : Nat} {keep : Bool} {sm : SM}
/-- as fn_ok, the code object known -/
theorem fn_okC (F : Fun K x qual st f fd) (S : FnScope N ps (defScope st))
    (hb : ∀ (A : Around) (outer : List Env) (s : Shared) (H : Hp) (E : XK), Room k (A.deeper (envOfC qual (defScope st) s.heap.objs.size f fd.code)) → SSs WF (cxOf CX0 P w K mg base N qual (defScope st) f fd.code A outer s H E).nox (defBody st) sm) :
    FnOk P w K mg base CX0 (k + 1) f fd ps (spF K ps.length (callF keep sm N.length)) := by
  obtain ⟨oc, od, kV, doc, pm, an, cdv, ct, osl, rfl, lk, hcd⟩ := F.ex
  refine fn_of lk hcd S (fun vs H Q E h => h.1) fun A outer s H vs Q E hr hsp => ?_
  refine ⟨_, (hb A outer s H E hr).nox, ?_⟩
  obtain ⟨_, mu, Z, h, ds, sr, rp, o⟩ := hsp
  refine ⟨mu, Z, h, startD N.length ds, sr, sltR_start N rp, .nil, ?_⟩
  unfold callF at o
  cases e : sm (startD N.length ds) h with
  | ok fl h1 =>
    cases fl with
    | rt v =>
      simp only [e] at o
      exact fun mu1 Z1 H1 sr1 p1 u ru => fin_ok sr sr1 p1 ru o
    | nx s1 =>
      simp only [e] at o
      exact fun mu1 Z1 H1 sr1 p1 sg _ => fin_ok sr sr1 p1 .non o
    | bk s1 => simp only [e] at o; exact o.elim
    | ct s1 => simp only [e] at o; exact o.elim
    | rs x s1 => simp only [e] at o; exact o.elim
  | ex x h1 => simp only [e] at o; exact o.elim
  | bad => simp only [e] at o; exact o.elim
end
end TB
end

section
set_option Elab.async false
set_option linter.all false
set_option maxRecDepth 100000
set_option autoImplicit false
set_option maxHeartbeats 1000000
/-! TB33: defs that raise, and their calls. -/
namespace TB
open PySem PySem.Spec PyProof.Rows L2
variable [LC] [LT]
theorem exm_pair {K : PySem.W.Frag} {S T : Addr} {b : Bool} (h1 : PySem.W.subIn K (.ref T) (.type "BaseException") = some true) (h2 : PySem.W.isClsIn K T = true) (h3 : PySem.W.typeIn K (.ref T) = some (.type "type")) (h4 : PySem.W.subIn K (.ref S) (.ref T) = some b) :
    PySem.W.exmOne K (.ref S) (.ref T) = some b := by
  have e1 : (PySem.W.subIn K (.ref T) (.type "BaseException") == some true) = true := by rw [h1] <;> rfl
  have e2 : ((PySem.W.clsIn K T).isSome && PySem.W.typeIn K (.ref T) == some (.type "type")) = true := by
    have h2' : (PySem.W.clsIn K T).isSome = true := h2
    rw [h2', h3] <;> rfl
  unfold PySem.W.exmOne
  rw [if_pos e1]
  show (if ((PySem.W.clsIn K T).isSome && PySem.W.typeIn K (.ref T) == some (.type "type")) = true then PySem.W.subIn K (.ref S) (.ref T) else none) = some b
  rw [if_pos e2]
  exact h4
/-! ### the end of a def -/
def finX (k : Nat) (e : Exn) (h : Hh) : Res D := if ((h.take k).all (obLow k) && lowf 0 e.fs) = true then .ex e (h.take k) else .bad
/-- a def of n names by its body, which may raise -/
def callFX (sm : SM) (n : Nat) : FM := fun ds h => match sm (startD n ds) h with
  | .ok (.rt v) h1 => fin false h.length v h1
  | .ok (.nx _) h1 => fin false h.length .non h1
  | .ok (.rs e _) h1 => finX h.length e h1
  | _ => .bad
def spX (K : PySem.W.Frag) (n : Nat) (F : FM) : Sp := fun vs H Q E => vs.length = n ∧ ∃ mu Z h ds, SR K mu Z H h ∧ Reps K mu Z ds vs ∧
  Out K mu Z H (F ds h) E fun v mu' Z' H' _ => ∀ u, Rep K mu' Z' v u → Q u H'
theorem ExRep.low {K : PySem.W.Frag} {mu mu' : List Addr} {Z Z' H H' : Hp} {e : Exn} {c : Value} {d : Option Addr} (x : ExRep K mu Z H e c d) (hl : lowf 0 e.fs = true) (hz : Sub Z Z') : ExRep K mu' Z' H' e c d := by
  obtain ⟨h1, a, gs, h2, h3, h4, h5⟩ := x
  exact ⟨h1, a, gs, h2, hz _ _ h3, h4, h5.low (k := 0) (fun n _ z => absurd z (Nat.not_lt_zero _)) hz (by rw [← lowf_eq]; exact hl)⟩
theorem ExRep.mono {K : PySem.W.Frag} {mu mu' : List Addr} {Z Z' H H' H0 : Hp} {e : Exn} {c : Value} {d : Option Addr} (x : ExRep K mu Z H e c d) (p : Stp mu Z H0 mu' Z' H') : ExRep K mu' Z' H' e c d := by
  obtain ⟨h1, a, gs, h2, h3, h4, h5⟩ := x
  exact ⟨h1, a, gs, h2, p.zm _ _ h3, h4, p.reps h5⟩
theorem finX_ok {K : PySem.W.Frag} {mu mu1 : List Addr} {Z H Z1 H1 : Hp} {h h1 : Hh} {e : Exn} {c : Value} {d : Option Addr} {E : XK} {Q : D → List Addr → Hp → Hp → Hh → Prop} (sr : SR K mu Z H h) (sr1 : SR K mu1 Z1 H1 h1) (p1 : Stp mu Z H mu1 Z1 H1) (r : ExRep K mu1 Z1 H1 e c d)
    (o : Out K mu Z H (finX h.length e h1) E Q) : E c d H1 := by
  unfold finX at o
  split at o
  · rename_i hl
    obtain ⟨hl1, hl2⟩ := Bool.and_eq_true_iff.mp hl
    have hk : mu.length = h.length := sr.len
    obtain ⟨et, p2⟩ := p1.cut sr1 hk
    have cc := sr1.cut hl1
    rw [et] at cc
    exact o mu _ H1 c d cc p2 (r.low hl2 (zcut_sub sr1))
  · exact o.elim
theorem fn_okX {P : Program} {w : World} {K : PySem.W.Frag} {mg : Str → Option Value} {base : Heap} {x qual : Str} {st : Stmt} {f : Addr} {fd : FuncData} {N ps : List Str} {k : Nat} {sm : SM} (F : Fun K x qual st f fd) (S : FnScope N ps (defScope st))
    (hb : ∀ (cdv : Value) (A : Around) (outer : List Env) (s : Shared) (H : Hp) (E : XK), Room k (A.deeper (envOfC qual (defScope st) s.heap.objs.size f cdv)) → SSs (fun c d _ H' => E c d H') (cxOf (L2.CX P w) P w K mg base N qual (defScope st) f cdv A outer s H E) (defBody st) sm) :
    FnOk P w K mg base (L2.CX P w) (k + 1) f fd ps (spX K ps.length (callFX sm N.length)) := by
  refine F.okX S (fun vs H Q E h => h.1) (fun cdv A outer s H vs Q E hr h => ⟨_, hb cdv A outer s H E hr, ?_⟩)
  obtain ⟨_, mu, Z, h, ds, sr, rp, o⟩ := h
  refine ⟨mu, Z, h, startD N.length ds, sr, sltR_start N rp, .nil, ?_⟩
  unfold callFX at o
  cases e : sm (startD N.length ds) h with
  | ok fl h1 =>
    cases fl with
    | rt v =>
      simp only [e] at o
      have o' : Out K mu Z H (fin false h.length v h1) (fun _ _ _ => False) fun v mu' Z' H' _ => ∀ u, Rep K mu' Z' v u → Q u H' := by
        unfold fin at o ⊢
        simp only [Bool.false_eq_true, if_false] at o ⊢
        split at o
        · rename_i q
          rw [if_pos q]
          split at o
          · exact o
          · exact o.elim
        · exact o.elim
      exact fun mu1 Z1 H1 sr1 p1 u ru => fin_ok sr sr1 p1 ru o'
    | nx s1 =>
      simp only [e] at o
      have o' : Out K mu Z H (fin false h.length .non h1) (fun _ _ _ => False) fun v mu' Z' H' _ => ∀ u, Rep K mu' Z' v u → Q u H' := by
        unfold fin at o ⊢
        simp only [Bool.false_eq_true, if_false] at o ⊢
        split at o
        · rename_i q
          rw [if_pos q]
          split at o
          · exact o
          · exact o.elim
        · exact o.elim
      exact fun mu1 Z1 H1 sr1 p1 sg _ => fin_ok sr sr1 p1 .non o'
    | bk s1 => simp only [e] at o; exact o.elim
    | ct s1 => simp only [e] at o; exact o.elim
    | rs x s1 =>
      simp only [e] at o
      exact fun mu1 Z1 H1 sr1 p1 sg c d _ hx => finX_ok sr sr1 p1 hx o
  | ex x h1 => simp only [e] at o; exact o.elim
  | bad => simp only [e] at o; exact o.elim
/-! ### calls -/
def callOpX (F : FM) (ds : List D) (h : Hh) : Res D :=
  if (refsOf ds).Nodup ∧ argLow ds = true then match getC h (refsOf ds) with
    | some cs => if cs.all (obLow 0) = true then match F (renD 0 ds) cs with
      | .ok v c1 => if c1.all (obLow 0) = true ∧ (refsOf ds).length ≤ c1.length then outC h.length (refsOf ds).length v (putC h (refsOf ds) (c1.take (refsOf ds).length) ++ c1.drop (refsOf ds).length) else .bad
      | .ex e c1 => if (c1.all (obLow 0) = true ∧ (refsOf ds).length ≤ c1.length) ∧ lowf 0 e.fs = true then .ex e (putC h (refsOf ds) (c1.take (refsOf ds).length) ++ c1.drop (refsOf ds).length) else .bad
      | .bad => .bad
      else .bad
    | none => .bad
  else .bad
theorem call_okX {K : PySem.W.Frag} {mu : List Addr} {Z H : Hp} {h : Hh} {F : FM} {ds : List D} {vs : List V} {E : XK} {Q : VK} {n : Nat} (sr : SR K mu Z H h) (rp : Reps K mu Z ds vs) (hn : vs.length = n)
    (o : Out K mu Z H (callOpX F ds h) E fun v mu' Z' H' _ => ∀ u, Rep K mu' Z' v u → Q u H') : spX K n F vs H Q E := by
  refine ⟨hn, ?_⟩
  unfold callOpX at o
  split at o
  · rename_i hc
    obtain ⟨nd, al⟩ := hc
    split at o
    · rename_i cs ec
      split at o
      · rename_i hl
        refine ⟨(refsOf ds).map fun n => mu.getD n 0, Z, cs, renD 0 ds, sr.foot nd ec hl, ren_reps 0 rp al fun j m q => by rw [Nat.zero_add]; exact foot_nu sr ec j m q, ?_⟩
        split at o
        · rename_i v c1 ef
          rw [ef]
          split at o
          · rename_i hl1
            intro mu1 Z1 H1 sr1 p1 u ru
            obtain ⟨sr2, p2⟩ := sr.back nd ec sr1 p1 hl1.1
            unfold outC at o
            cases v with
            | ref m =>
              simp only at o
              split at o
              · rename_i hm
                refine o _ _ _ sr2 p2 u ?_
                cases ru with
                | ref er =>
                  refine .ref ?_
                  rw [List.getElem?_append_right (by rw [sr.len]; omega), List.getElem?_drop, ← er]
                  congr 1
                  rw [sr.len]; omega
              · exact o.elim
            | _ =>
              simp only at o
              split at o
              · rename_i hlow
                exact o _ _ _ sr2 p2 u (ru.low (k := 0) (fun n _ z => absurd z (Nat.not_lt_zero _)) (Sub.refl _) hlow)
              · exact o.elim
          · exact o.elim
        · rename_i e c1 ef
          rw [ef]
          split at o
          · rename_i hl1
            intro mu1 Z1 H1 c d sr1 p1 x
            obtain ⟨sr2, p2⟩ := sr.back nd ec sr1 p1 hl1.1.1
            exact o _ _ _ c d sr2 p2 (x.low hl1.2 (Sub.refl _))
          · exact o.elim
        · exact o.elim
      · exact o.elim
    · exact o.elim
  · exact o.elim
def mCallX (F : FM) (ms : AM) : EM := fun s h => (ms s h).bind fun ds h1 => callOpX F ds h1
/-- a def as it may be called, which may raise -/
structure CbX (P : Program) (w : World) (K : PySem.W.Frag) (mg : Str → Option Value) (base : Heap) (k : Nat) (x : Str) (n : Nat) (F : FM) : Prop where
  ex : ∃ (f : Addr) (fd : FuncData) (ps : List Str), FnOk P w K mg base (L2.CX P w) k f fd ps (spX K n F) ∧ mg x = some (.ref f) ∧ PySem.W.keepIn K (.ref f) = true ∧ Binds K fd ps []
theorem CbX.mono {P : Program} {w : World} {K : PySem.W.Frag} {mg : Str → Option Value} {base : Heap} {j k n : Nat} {x : Str} {F : FM} (c : CbX P w K mg base j x n F) (h : j ≤ k) : CbX P w K mg base k x n F := by
  obtain ⟨f, fd, ps, a, b, c, d⟩ := c.ex
  exact ⟨f, fd, ps, a.mono h, b, c, d⟩
section
variable {W : WXx} {X : Cx} {e : Expr} {es : List Expr} {x : Str} {k n : Nat} {F : FM} {ms : AM} {p pos : Pos}
theorem se_callX (tk : Takes X W) (c : CbX X.prog X.w X.K X.mg X.base k x n F) (hr : Room k X.A) (hg : Gl X x) (ha : SA W X (e :: es) ms) (hn : (e :: es).length = n)
    (hm : ∀ s h ds h1, ms s h = .ok ds h1 → ds.length = n)
    (hdb : (x == ("__debug__" : Str)) = false := by decide) (he : starEach (e :: es) X.env = (false, eval e X.env) :: starEach es X.env := by rfl) (hpl : (backTo pos (starEach es X.env)).any (·.1) = false := by rfl) :
    SE W X (.Call (.Name x p) (e :: es) [] pos) (mCallX F ms) := by
  obtain ⟨f, fd, ps, c1, c2, c3, c4⟩ := c.ex
  refine PE.imp (pe_callS (E := WE W) c1 hr hg c2 c3 c4 (fun σ => passAt tk σ) ha hdb he hpl) fun sg H Q o => ?_
  obtain ⟨mu, Z, h, s, sr, sl, _, o⟩ := o
  refine ⟨mu, Z, h, s, sr, sl, ?_⟩
  unfold mCallX at o
  cases em : ms s h with
  | ok ds h1 =>
    simp only [em, Res.bind_ok] at o
    intro mu1 Z1 H1 sr1 p1 us ru
    exact call_okX sr1 ru (by rw [← ru.length]; exact hm s h ds h1 em) (Out.mono p1 o fun _ _ _ _ _ _ q => q)
  | ex x h1 =>
    simp only [em, Res.bind_ex] at o
    exact o
  | bad =>
    simp only [em, Res.bind_bad] at o
    exact o.elim
end
/-! ### own exceptions with an __init__ -/
/-- the heap behind an __init__ -/
def iniH (H : Hp) (a C d : Addr) (fs : List (Str × V)) : Hp := upd (upd H d (exd d fs)) a (exo a C (some d))
theorem iniH_more {H : Hp} {a C d : Addr} {fs gs : List (Str × V)} (h : d ≠ a) : upd (iniH H a C d fs) d (exd d gs) = iniH H a C d gs := by
  funext b
  unfold iniH
  by_cases hb : b = d
  · subst hb
    rw [upd_same, upd_ne h, upd_same]
  · rw [upd_ne hb]
    by_cases ha : b = a
    · subst ha; rw [upd_same, upd_same]
    · rw [upd_ne ha, upd_ne ha, upd_ne hb, upd_ne hb]
def spInit (C : Addr) (ns : List Str) : Sp := fun vs H Q _ => vs.length = ns.length + 1 ∧ ∃ a ws, vs = .ref a :: ws ∧ H a = some (exo a C none) ∧ ∀ d, H d = none → d ≠ a → Q .non (iniH H a C d (ns.zip ws).reverse)
/-- a class of exceptions as it is made -/
structure ExI (P : Program) (w : World) (K : PySem.W.Frag) (mg : Str → Option Value) (base : Heap) (k : Nat) (x : Str) (ns : List Str) : Prop where
  ex : ∃ (fI : Addr) (fd : FuncData) (ps : List Str), FnOk P w K mg base CX0 k fI fd ps (spInit (LC.C x) ns) ∧ Binds K fd ps [] ∧ PySem.W.findIn K (.ref (LC.C x)) "__init__" = some (some (.ref fI)) ∧ PySem.W.typeIn K (.ref fI) = some (.type "function")
  o : OexC K (LC.C x)
  m : mg x = some (.ref (LC.C x))
theorem ExI.mono {P : Program} {w : World} {K : PySem.W.Frag} {mg : Str → Option Value} {base : Heap} {j k : Nat} {x : Str} {ns : List Str} (c : ExI P w K mg base j x ns) (h : j ≤ k) : ExI P w K mg base k x ns := by
  obtain ⟨⟨f, fd, ps, a, b⟩, o, m⟩ := c
  exact ⟨⟨f, fd, ps, a.mono h, b⟩, o, m⟩
/-- raise C(a, ..) -/
def sRaise (c : Str) (ns : List Str) (ms : AM) : SM := fun s h => stE (ms s h) s fun ds h1 => if (decide (ds.length = ns.length) && lows 0 ds) = true then .ok (.rs ⟨c, (ns.zip ds).reverse⟩ s) h1 else .bad
theorem fst_zip {α : Type} : ∀ {ns : List Str} {xs : List α}, xs.length = ns.length → (ns.zip xs).map (·.1) = ns
  | [], [], _ => rfl
  | n :: ns, x :: xs, h => by simp [fst_zip (ns := ns) (xs := xs) (by simpa using h)]
  | [], _ :: _, h => by simp at h
  | _ :: _, [], h => by simp at h
theorem snd_zip {α : Type} : ∀ {ns : List Str} {xs : List α}, xs.length = ns.length → (ns.zip xs).map (·.2) = xs
  | [], [], _ => rfl
  | n :: ns, x :: xs, h => by simp [snd_zip (ns := ns) (xs := xs) (by simpa using h)]
  | [], _ :: _, h => by simp at h
  | _ :: _, [], h => by simp at h
section
variable {W : WXx} {X : Cx} {e : Expr} {es : List Expr} {x : Str} {k : Nat} {ns : List Str} {ms : AM} {p pos pos' : Pos}
theorem ss_raise (tk : Takes X W) (M : ExI X.prog X.w X.K X.mg X.base k x ns) (hr : Room (k + 1) X.A) (hc : X.calm = true) (hn : ns.length ≤ 100) (hg : Gl X x) (ha : SA W X (e :: es) ms)
    (hdb : (x == ("__debug__" : Str)) = false := by decide) (he : starEach (e :: es) X.env = (false, eval e X.env) :: starEach es X.env := by rfl) (hpl : (backTo pos (starEach es X.env)).any (·.1) = false := by rfl) :
    SS W X (.Raise (some (.Call (.Name x p) (e :: es) [] pos)) none pos') (sRaise x ns ms) := by
  obtain ⟨⟨fI, fd, ps, F, b, fi, ti⟩, T, hm⟩ := M
  refine PS.imp (ps_raise hc tk (pmk_oex T fi ti F hr b .nil pass0 hg hm ha hdb he hpl)) fun Dn sg H o => ?_
  obtain ⟨mu, Z, h, s, sr, sl, _, o⟩ := o
  unfold sRaise at o
  refine ⟨mu, Z, h, s, sr, sl, ?_⟩
  cases em : ms s h with
  | ok ds h1 =>
    simp only [em, stE] at o
    intro mu1 Z1 H1 sr1 p1 us ru
    split at o
    · rename_i hq
      obtain ⟨hq1, hq2⟩ := Bool.and_eq_true_iff.mp hq
      have hq1 := of_decide_eq_true hq1
      have hl := ru.length
      refine ⟨by omega, fun a ha0 => ?_⟩
      rw [List.append_nil]
      refine ⟨by simp; omega, a, us, rfl, upd_same, fun d hd hda => ⟨rfl, d, (ns.zip us).reverse, by unfold iniH; rw [upd_same], by unfold iniH; rw [upd_ne hda, upd_same], by rw [upd_ne hda] at hd; exact hd, ?_⟩⟩
      have hd1 : H1 d = none := by rw [upd_ne hda] at hd; exact hd
      have eH : upd (del (iniH (upd H1 a (exo a (LC.C x) none)) a (LC.C x) d (ns.zip us).reverse) a) d (.xd (ns.zip us).reverse) = upd H1 d (.xd (ns.zip us).reverse) := by
        funext b
        by_cases hb : b = d
        · subst hb; rw [upd_same, upd_same]
        · rw [upd_ne hb, upd_ne hb]
          by_cases hba : b = a
          · subst hba; rw [del_same, ha0]
          · rw [del_ne hba]
            unfold iniH
            rw [upd_ne hba, upd_ne hb, upd_ne hba]
      rw [eH]
      obtain ⟨q1, q2⟩ := sr1.addZ hd1 (.xd (ns.zip us).reverse)
      have sl2 : SltR X.K mu1 (upd Z1 d (.xd (ns.zip us).reverse)) s sg := sl.mono (p1.trans q2)
      refine o mu1 _ _ q1 (p1.trans q2) sg _ _ sl2 ⟨rfl, d, (ns.zip us).reverse, rfl, upd_same, ?_, ?_⟩
      · simp only [List.map_reverse]
        rw [fst_zip hq1, fst_zip (by omega)]
      · simp only [List.map_reverse]
        rw [snd_zip hq1, snd_zip (by omega)]
        exact (q2.reps ru).reverse
    · exact o.elim
  | ex x h1 =>
    simp only [em, stE] at o
    exact fun mu1 Z1 H1 cls d sr1 p1 x => o mu1 Z1 H1 sr1 p1 sg cls d (sl.mono p1) x
  | bad =>
    simp only [em, stE] at o
    exact o.elim
end
end TB
end

section
set_option Elab.async false
set_option linter.all false
set_option maxRecDepth 100000
set_option autoImplicit false
set_option maxHeartbeats 1000000
/-! TB34: try, except; the __init__ of own exceptions. -/
namespace TB
open PySem PySem.Spec PyProof.Rows L2
/-! ### the exception in hand -/
theorem rep_cv (A B : LC) [LT] (hC : A.C = B.C) (hW : A.W = B.W) {K : PySem.W.Frag} {mu : List Addr} {Z : Hp} {k : Nat} {d : D} {v : V} (r : @Rep A K mu Z d v) : low k d = true → @Rep B K mu Z d v := by
  refine @Rep.rec A K mu Z (fun d v _ => low k d = true → @Rep B K mu Z d v) (fun ds vs _ => lows k ds = true → @Reps B K mu Z ds vs) ?_ ?_ ?_ ?_ ?_ ?_ ?_ ?_ ?_ ?_ ?_ ?_ ?_ ?_ ?_ ?_ d v r
  · exact fun _ => @Rep.non B K mu Z
  · exact fun b _ => @Rep.bl B K mu Z b
  · exact fun b _ => @Rep.int B K mu Z b
  · exact fun h _ => @Rep.str B K mu Z _ h
  · exact fun h _ l ih e => @Rep.tup B K mu Z _ _ _ h (ih (by simpa [TB.low] using e)) l
  · exact fun h l _ => @Rep.scr B K mu Z _ _ h l
  · exact fun h _ l ih e => @Rep.lst B K mu Z _ _ _ h (ih (by simpa [TB.low] using e)) l
  · exact fun h e l _ ih q => @Rep.dic B K mu Z _ _ _ _ h e l (ih (by rw [← lowk_eq]; simpa [TB.low] using q))
  · intro kts a o ys h e l _ _ ih1 ih2 q
    rw [hW] at h
    exact @Rep.dit B K mu Z kts a o ys h e l (ih1 (lowt_eq k _ (by simpa [TB.low] using q)).1) (ih2 (lowt_eq k _ (by simpa [TB.low] using q)).2)
  · exact fun _ _ _ _ q => by simp [TB.low] at q
  · intro C fs a dx gs h h2 e _ ih q
    rw [hC] at h
    exact @Rep.ins B K mu Z C fs a dx gs h h2 e (ih (by rw [← lowf_eq]; simpa [TB.low] using q))
  · intro x _
    rw [hC]
    exact @Rep.fn B K mu Z x
  · exact fun n _ => @Rep.ty B K mu Z n
  · exact fun h _ => @Rep.ref B K mu Z _ _ h
  · exact fun _ => @Reps.nil B K mu Z
  · intro x v xs vs _ _ ih1 ih2 e
    simp only [lows, Bool.and_eq_true] at e
    exact @Reps.cons B K mu Z _ _ _ _ (ih1 e.1) (ih2 e.2)
theorem reps_cv (A B : LC) [LT] (hC : A.C = B.C) (hW : A.W = B.W) {K : PySem.W.Frag} {mu : List Addr} {Z : Hp} {k : Nat} : ∀ {ds : List D} {vs : List V}, @Reps A K mu Z ds vs → lows k ds = true → @Reps B K mu Z ds vs
  | [], [], _, _ => @Reps.nil B K mu Z
  | d :: ds, [], r, _ => by cases r
  | [], v :: vs, r, _ => by cases r
  | d :: ds, v :: vs, r, e => by
    cases r with
    | cons r rs =>
      simp only [lows, Bool.and_eq_true] at e
      exact @Reps.cons B K mu Z _ _ _ _ (rep_cv A B hC hW r e.1) (reps_cv A B hC hW rs e.2)
theorem obRep_cv (A B : LC) [LT] (hC : A.C = B.C) (hW : A.W = B.W) {K : PySem.W.Frag} {mu : List Addr} {Z H : Hp} {k : Nat} {a : Addr} {ob : Ob} (r : @ObRep A K mu Z H a ob) (e : obLow k ob = true) : @ObRep B K mu Z H a ob := by
  cases ob with
  | lst xs => obtain ⟨l, vs, e1, q⟩ := r; exact ⟨l, vs, e1, reps_cv A B hC hW q e⟩
  | dic xs => obtain ⟨vs, e1, e2, k', q⟩ := r; exact ⟨vs, e1, e2, k', reps_cv A B hC hW q (by rw [← lowk_eq]; exact e)⟩
  | dit xs => obtain ⟨vs, e1, e2, k', q, q2⟩ := r; exact ⟨vs, by rw [← hW]; exact e1, e2, k', reps_cv A B hC hW q (lowt_eq _ _ e).1, reps_cv A B hC hW q2 (lowt_eq _ _ e).2⟩
  | ins C fs => obtain ⟨dx, gs, e1, e2, q⟩ := r; exact ⟨dx, gs, by rw [← hC]; exact e1, e2, reps_cv A B hC hW q (by rw [← lowf_eq]; exact e)⟩
theorem sr_cv (A B : LC) [lt : LT] (hC : A.C = B.C) (hW : A.W = B.W) {K : PySem.W.Frag} {mu : List Addr} {Z H : Hp} {k : Nat} {h : Hh} (sr : @SR A lt K mu Z H h) (e : h.all (obLow k) = true) : @SR B lt K mu Z H h :=
  @SR.mk B lt K mu Z H h (@SR.zin A lt K mu Z H h sr) (@SR.len A lt K mu Z H h sr) (@SR.nd A lt K mu Z H h sr) (@SR.sep A lt K mu Z H h sr) (fun n ob a e1 e2 => obRep_cv A B hC hW (@SR.cell A lt K mu Z H h sr n ob a e1 e2) (List.all_eq_true.mp e ob (List.mem_of_getElem? e1))) (@SR.tb A lt K mu Z H h sr)
/-- no cell from k on, no exception in hand among the slots -/
def slLow (k : Nat) (s : Sl) : Bool := s.all fun o => match o with
  | some d => low k d
  | none => true
theorem slLow_at {k : Nat} {s : Sl} (e : slLow k s = true) {i : Nat} {d : D} (h : s[i]? = some (some d)) : low k d = true := List.all_eq_true.mp e _ (List.mem_of_getElem? h)
theorem sltR_cv (A B : LC) [LT] (hC : A.C = B.C) (hW : A.W = B.W) {K : PySem.W.Frag} {mu : List Addr} {Z : Hp} {k : Nat} {s : Sl} {sg : L2.St} (sl : @SltR A K mu Z s sg) (e : slLow k s = true) : @SltR B K mu Z s sg := @SltR.mk B K mu Z s sg (@SltR.len A K mu Z s sg sl) fun i d h => by
  obtain ⟨v, h1, h2⟩ := @SltR.at_ A K mu Z s sg sl i d h
  exact ⟨v, h1, rep_cv A B hC hW h2 (slLow_at e h)⟩
theorem SltR.unset [LC] {K : PySem.W.Frag} {mu : List Addr} {Z : Hp} {s : Sl} {sg : L2.St} (sl : SltR K mu Z s sg) (i : Nat) : SltR K mu Z (s.set i none) (sg.set i none) := by
  refine ⟨by simp [sl.len], fun j d e => ?_⟩
  by_cases hj : i = j
  · subst hj
    by_cases hl : i < s.length
    · rw [List.getElem?_set_self hl] at e; cases e
    · rw [List.getElem?_eq_none (by simpa using hl)] at e; cases e
  · rw [List.getElem?_set_ne hj] at e
    obtain ⟨v, h1, h2⟩ := sl.at_ j d e
    exact ⟨v, by rw [List.getElem?_set_ne hj]; exact h1, h2⟩
theorem sltR_set (A : LC) [LT] {K : PySem.W.Frag} {mu : List Addr} {Z : Hp} {s : Sl} {sg : L2.St} (r : @SltR A K mu Z s sg) (i : Nat) {d : D} {v : V} (q : @Rep A K mu Z d v) : @SltR A K mu Z (s.set i (some d)) (sg.set i (some v)) := r.set i q
theorem sltR_unset (A : LC) [LT] {K : PySem.W.Frag} {mu : List Addr} {Z : Hp} {s : Sl} {sg : L2.St} (r : @SltR A K mu Z s sg) (i : Nat) : @SltR A K mu Z (s.set i none) (sg.set i none) := r.unset i
/-- the same classes, and the exception in hand -/
@[reducible] def lcE (A : LC) (c : Str) (a d : Addr) : LC := ⟨A.C, c, a, d, A.W⟩
/-- behind a suite -/
def endT (i : Nat) (r : Res Fl) : Res Fl := match r with
  | .ok (.rt v) h => if (low h.length v && h.all (obLow h.length)) = true then .ok (.rt v) h else .bad
  | .ok (.nx s) h => if (slLow h.length (s.set i none) && h.all (obLow h.length)) = true then .ok (.nx (s.set i none)) h else .bad
  | .ok (.bk s) h => if (slLow h.length (s.set i none) && h.all (obLow h.length)) = true then .ok (.bk (s.set i none)) h else .bad
  | .ok (.ct s) h => if (slLow h.length (s.set i none) && h.all (obLow h.length)) = true then .ok (.ct (s.set i none)) h else .bad
  | _ => .bad
/-- try, except one of cl as the name at i; nk: what it lets go -/
def sTry (cl nk : List Str) (i : Nat) (fb sm : SM) : SM := fun s h => match fb s h with
  | .ok (.rs e s1) h1 => if e.cls ∈ cl then (if ((slLow h1.length s1 && h1.all (obLow h1.length)) && lowf h1.length e.fs) = true then endT i (sm (s1.set i (some (.exn e.cls e.fs))) h1) else .bad)
    else if e.cls ∈ nk then .ok (.rs e s1) h1 else .bad
  | r => r
/-- try, except without a name -/
def sTryO (cl nk : List Str) (fb sm : SM) : SM := fun s h => match fb s h with
  | .ok (.rs e s1) h1 => if e.cls ∈ cl then sm s1 h1 else if e.cls ∈ nk then .ok (.rs e s1) h1 else .bad
  | r => r
section
variable [lc : LC] [LT] {W : WXx} {X : Cx} {x n : Str} {i : Nat} {body suite : List Stmt} {b₀ : Stmt} {np pos pos' : Pos} {cl nk : List Str} {fb sm : SM} {C : Addr}
theorem ss_try (tk : Takes X W) (hs : X.stack = X.env :: X.outer) (hf : X.env.frame = some X.env.locals) (hN : X.N.Nodup) (hx : Names X x (.ref C))
    (hcl : ∀ c, c ∈ cl → PySem.W.exmOne X.K (.ref (LC.C c)) (.ref C) = some true) (hnk : ∀ c, c ∈ nk → PySem.W.exmOne X.K (.ref (LC.C c)) (.ref C) = some false)
    (hb : ∀ (W : WXx) (pn : List (Addr × Obj)) (xe : Value → Shared → Prop), Takes (X.tr pn xe) W → PassesOwn (model X.prog X.w) X.A X.env xe → SSs W (X.tr pn xe) body fb)
    (hsu : ∀ (a d : Addr) (oe : Obj) (c : Str) (pn : List (Addr × Obj)), c ∈ cl → Zc (.ref (LC.C c)) (some d) oe → (∃ vs, oe.data = .fields vs) → @SSs (lcE lc c a d) _ WF (X.suite a ((a, oe) :: pn)) (b₀ :: suite) sm)
    (hi : X.N[i]? = some n := by rfl) (hln : X.env.kindOf n = some .local := by rfl) :
    SS W X (.Try body [.ExceptHandler (some (.Name x np)) (some n) (b₀ :: suite) pos'] [] [] pos) (sTry cl nk i fb sm) := by
  refine PS.imp (ps_try_as (tb := fun W => tS X.K W fb) (ts := fun a cls d Dn sg H => ∃ (c : Str) (dd : Addr), (c ∈ cl ∧ cls = .ref (LC.C c) ∧ d = some dd) ∧ @tS (lcE lc c a dd) _ X.K WF sm Dn sg H) hs hf hN hi hln hx tk (fun W pn xe tk' ps => hb W pn xe tk' ps) (fun a oe cls d pn hz hd => ⟨fun pins s σ H Dn I q => ?_⟩)) fun Dn sg H o => ?_
  · obtain ⟨c, dd, ⟨hc, rfl, rfl⟩, q⟩ := q
    exact (hsu a dd oe c pn hc hz hd).run pins s σ H Dn I q
  · obtain ⟨mu, Z, h, s, sr, sl, rp, o⟩ := o
    refine ⟨mu, Z, h, s, sr, sl, rp, ?_⟩
    unfold sTry at o
    cases eb : fb s h with
    | ex e h1 => simp only [eb] at o; exact o
    | bad => simp only [eb] at o; exact o
    | ok fl h1 =>
      cases fl with
      | nx s1 => simp only [eb] at o; exact o
      | rt v => simp only [eb] at o; exact o
      | bk s1 => simp only [eb] at o; exact o
      | ct s1 => simp only [eb] at o; exact o
      | rs e s1 =>
        simp only [eb] at o
        intro mu1 Z1 H1 sr1 p1 sg1 c d sl1 x1
        obtain ⟨rfl, dd, gs, rfl, hz, hn, hr⟩ := x1
        by_cases hc : e.cls ∈ cl
        · rw [if_pos hc] at o
          refine ⟨true, hcl _ hc, fun _ a ha => ?_, fun z => nomatch z⟩
          split at o
          · rename_i hq
            obtain ⟨hq1, hq3⟩ := Bool.and_eq_true_iff.mp hq
            obtain ⟨hq1, hq2⟩ := Bool.and_eq_true_iff.mp hq1
            have q := sltR_cv lc (lcE lc e.cls a dd) rfl rfl sl1 hq1
            have rx : @Rep (lcE lc e.cls a dd) X.K mu1 Z1 (.exn e.cls e.fs) (.ref a) := @Rep.exn (lcE lc e.cls a dd) X.K mu1 Z1 e.fs gs hz hn (reps_cv lc (lcE lc e.cls a dd) rfl rfl hr (by rw [← lowf_eq]; exact hq3))
            refine ⟨e.cls, dd, ⟨hc, rfl, rfl⟩, mu1, Z1, h1, s1.set i (some (.exn e.cls e.fs)), sr_cv lc (lcE lc e.cls a dd) rfl rfl sr1 hq2, sltR_set (lcE lc e.cls a dd) q i rx, @Reps.nil (lcE lc e.cls a dd) X.K mu1 Z1, ?_⟩
            · unfold endT at o
              cases es : sm (s1.set i (some (.exn e.cls e.fs))) h1 with
              | ex e2 h2 => simp only [es] at o; exact o.elim
              | bad => simp only [es] at o; exact o.elim
              | ok fl h2 =>
                cases fl with
                | rs e2 s2 => simp only [es] at o; exact o.elim
                | rt v =>
                  simp only [es] at o
                  split at o
                  · rename_i hl
                    obtain ⟨hl1, hl2⟩ := Bool.and_eq_true_iff.mp hl
                    intro mu2 Z2 H2 sr2 p2 u ru
                    exact o mu2 Z2 H2 (sr_cv (lcE lc e.cls a dd) lc rfl rfl sr2 hl2) (p1.trans p2) u (rep_cv (lcE lc e.cls a dd) lc rfl rfl ru hl1)
                  · exact o.elim
                | nx s2 =>
                  simp only [es] at o
                  split at o
                  · rename_i hl
                    obtain ⟨hl1, hl2⟩ := Bool.and_eq_true_iff.mp hl
                    intro mu2 Z2 H2 sr2 p2 sg2 sl2
                    exact o mu2 Z2 H2 (sr_cv (lcE lc e.cls a dd) lc rfl rfl sr2 hl2) (p1.trans p2) _ (sltR_cv (lcE lc e.cls a dd) lc rfl rfl (sltR_unset (lcE lc e.cls a dd) sl2 i) hl1)
                  · exact o.elim
                | bk s2 =>
                  simp only [es] at o
                  split at o
                  · rename_i hl
                    obtain ⟨hl1, hl2⟩ := Bool.and_eq_true_iff.mp hl
                    intro mu2 Z2 H2 sr2 p2 sg2 sl2
                    exact o mu2 Z2 H2 (sr_cv (lcE lc e.cls a dd) lc rfl rfl sr2 hl2) (p1.trans p2) _ (sltR_cv (lcE lc e.cls a dd) lc rfl rfl (sltR_unset (lcE lc e.cls a dd) sl2 i) hl1)
                  · exact o.elim
                | ct s2 =>
                  simp only [es] at o
                  split at o
                  · rename_i hl
                    obtain ⟨hl1, hl2⟩ := Bool.and_eq_true_iff.mp hl
                    intro mu2 Z2 H2 sr2 p2 sg2 sl2
                    exact o mu2 Z2 H2 (sr_cv (lcE lc e.cls a dd) lc rfl rfl sr2 hl2) (p1.trans p2) _ (sltR_cv (lcE lc e.cls a dd) lc rfl rfl (sltR_unset (lcE lc e.cls a dd) sl2 i) hl1)
                  · exact o.elim
          · exact o.elim
        · rw [if_neg hc] at o
          by_cases hk : e.cls ∈ nk
          · rw [if_pos hk] at o
            exact ⟨false, hnk _ hk, (fun z => nomatch z), fun _ => o mu1 Z1 H1 sr1 p1 sg1 _ _ sl1 ⟨rfl, dd, gs, rfl, hz, hn, hr⟩⟩
          · rw [if_neg hk] at o
            exact o.elim
theorem ss_tryO (tk : Takes X W) (hs : X.stack = X.env :: X.outer) (hf : X.env.frame = some X.env.locals) (hx : Names X x (.ref C))
    (hcl : ∀ c, c ∈ cl → PySem.W.exmOne X.K (.ref (LC.C c)) (.ref C) = some true) (hnk : ∀ c, c ∈ nk → PySem.W.exmOne X.K (.ref (LC.C c)) (.ref C) = some false)
    (hb : ∀ (W : WXx) (pn : List (Addr × Obj)) (xe : Value → Shared → Prop), Takes (X.tr pn xe) W → PassesOwn (model X.prog X.w) X.A X.env xe → SSs W (X.tr pn xe) body fb)
    (hsu : ∀ (a : Addr) (oe : Obj) (cls : Value) (d : Option Addr) (pn : List (Addr × Obj)), Zc cls d oe → (∃ vs, oe.data = .fields vs) → SSs W (X.suite a ((a, oe) :: pn)) (b₀ :: suite) sm) :
    SS W X (.Try body [.ExceptHandler (some (.Name x np)) none (b₀ :: suite) pos'] [] [] pos) (sTryO cl nk fb sm) := by
  refine PS.imp (ps_try_only (tb := fun W => tS X.K W fb) (ts := fun a cls d => tS X.K W sm) hs hf hx tk (fun W pn xe tk' ps => hb W pn xe tk' ps) (fun a oe cls d pn hz hd => hsu a oe cls d pn hz hd)) fun Dn sg H o => ?_
  obtain ⟨mu, Z, h, s, sr, sl, rp, o⟩ := o
  refine ⟨mu, Z, h, s, sr, sl, rp, ?_⟩
  unfold sTryO at o
  cases eb : fb s h with
  | ex e h1 => simp only [eb] at o; exact o
  | bad => simp only [eb] at o; exact o
  | ok fl h1 =>
    cases fl with
    | nx s1 => simp only [eb] at o; exact o
    | rt v => simp only [eb] at o; exact o
    | bk s1 => simp only [eb] at o; exact o
    | ct s1 => simp only [eb] at o; exact o
    | rs e s1 =>
      simp only [eb] at o
      intro mu1 Z1 H1 sr1 p1 sg1 c d sl1 x1
      obtain ⟨rfl, dd, gs, rfl, hz, hn, hr⟩ := x1
      by_cases hc : e.cls ∈ cl
      · rw [if_pos hc] at o
        exact ⟨true, hcl _ hc, fun _ a ha => ⟨mu1, Z1, h1, s1, sr1, sl1, .nil, Out.mono p1 o fun _ _ _ _ _ _ q => q⟩, fun z => nomatch z⟩
      · rw [if_neg hc] at o
        by_cases hk : e.cls ∈ nk
        · rw [if_pos hk] at o
          exact ⟨false, hnk _ hk, (fun z => nomatch z), fun _ => o mu1 Z1 H1 sr1 p1 sg1 _ _ sl1 ⟨rfl, dd, gs, rfl, hz, hn, hr⟩⟩
        · rw [if_neg hk] at o
          exact o.elim
end
/-- e.f of the exception in hand, at slot i -/
def mExn (i : Nat) (f : Str) : EM := fun s h => match s[i]? with
  | some (some (.exn _ fs)) => match fs.lookup f with
    | some v => .ok v h
    | none => .bad
  | _ => .bad
theorem reps_lookup [LC] {K : PySem.W.Frag} {mu : List Addr} {Z : Hp} {f : Str} {v : D} : ∀ {fs : List (Str × D)} {gs : List (Str × V)}, fs.map (·.1) = gs.map (·.1) → Reps K mu Z (fs.map (·.2)) (gs.map (·.2)) → fs.lookup f = some v → ∃ u, gs.lookup f = some u ∧ Rep K mu Z v u
  | [], _, _, _, h => by simp at h
  | _ :: _, [], e, _, _ => by simp at e
  | (a, x) :: fs, (b, y) :: gs, e, r, h => by
    simp only [List.map_cons, List.cons.injEq] at e
    obtain ⟨rfl, e⟩ := e
    simp only [List.map_cons] at r
    cases r with
    | cons r rs =>
      by_cases hf : f = a
      · subst hf
        simp [List.lookup] at h
        subst h
        exact ⟨y, by simp [List.lookup], r⟩
      · have hb : (f == a) = false := by simpa using hf
        simp only [List.lookup, hb] at h ⊢
        exact reps_lookup e rs h
section
variable [lc : LC] [LT] {W : WXx} {X : Cx} {a d : Addr} {oe : Obj} {c n f : Str} {i : Nat} {pn : List (Addr × Obj)} {p p2 : Pos}
theorem se_exn (T : XfC X.K (LC.C c)) (hno : PySem.W.findIn X.K (.ref (LC.C c)) f = some none) (hz : Zc (.ref (LC.C c)) (some d) oe) (hf : ∃ vs, oe.data = .fields vs)
    (hi : X.N[i]? = some n := by rfl) (hv : Vis X.env.scope n := by first | exact Or.inl rfl | exact Or.inr (Or.inl rfl) | exact Or.inr (Or.inr rfl)) (hd : (n == ("__debug__" : Str)) = false := by decide) (hcd : (n == ("__classdict__" : Str)) = false := by decide) (hb : attributeBase (.Name n p) f X.env (eval (.Name n p) X.env) = eval (.Name n p) X.env := by rfl) :
    @SE (lcE lc c a d) _ W (X.suite a ((a, oe) :: pn)) (.Attribute (.Name n p) f p2) (mExn i f) :=
  PE.imp (pe_xf T hno hz hf (pe_var hi hv hd hcd) hb) fun sg H Q o => by
    obtain ⟨mu, Z, h, s, sr, sl, _, o⟩ := o
    unfold mExn at o
    split at o
    · rename_i c' fs hs
      split at o
      · rename_i v hl
        obtain ⟨u, e1, r1⟩ := @SltR.at_ (lcE lc c a d) _ _ _ _ _ sl _ _ hs
        cases r1 with
        | exn hz hn hr =>
          obtain ⟨y, e2, r2⟩ := @reps_lookup (lcE lc c a d) _ _ _ _ _ _ _ hn hr hl
          exact ⟨.ref a, e1, rfl, rfl, d, _, y, rfl, @SR.zin (lcE lc c a d) _ _ _ _ _ _ sr _ _ hz, e2, o mu Z H sr (Stp.refl _ _ _) y r2⟩
      · exact o.elim
    · exact o.elim
end
/-! ### __init__ -/
section
variable {X : Cx} {e : Expr} {es : List Expr} {ta : TA} {p1 p2 pos : Pos} {B : Str} {CB : Addr}
/-- B.__init__(self, ..), B an own class over ValueError without an __init__ -/
theorem pe_iniB {pl : Sem Bool} (hg : Gl X B) (hm : X.mg B = some (.ref CB)) (rd : PySem.W.readsIn X.K CB (.type "type") = true) (ga : PySem.W.specialIn X.K (.ref CB) "__getattribute__" = some (some (.builtin "type.__getattribute__")))
    (vV : PySem.W.findCls X.K (.ref CB) (.type "type") "__init__" = some (.val (.builtin "ValueError.__init__"))) (ha : PA X (e :: es) ta)
    (hdb : (B == ("__debug__" : Str)) = false := by decide)
    (hc : eval (.Call (.Attribute (.Name B p1) "__init__" p2) (e :: es) [] pos) X.env = (do
      let ov ← eval (.Name B p1) X.env
      standAt p2.atName
      let (f, first) ← holding [ov] (getMethod ov "__init__" pl)
      callWith pos f first (backTo pos (starEach (e :: es) X.env)) (backToKw pos (keywordEach [] X.env))) := by rfl)
    (he : starEach (e :: es) X.env = (false, eval e X.env) :: starEach es X.env := by rfl) (hpl : (backTo pos (starEach es X.env)).any (·.1) = false := by rfl) :
    PE X (.Call (.Attribute (.Name B p1) "__init__" p2) (e :: es) [] pos) (tVeI X.K ta) := by
  refine ⟨fun pins s σ H Q I h => ?_⟩
  refine PySem.W.methodCall_KW (ld_glob I hg hm ?_ hdb) hc
  refine PySem.W.method_cls I.kIn ga (PySem.W.cls_value I.kIn rd vV rfl ?_)
  show wpAny _ _ (callWith pos (Value.builtin "ValueError.__init__") [] (backTo pos (starEach (e :: es) X.env)) []) _ _ _
  refine PyProof.Rows.callWith_method1 (thn (ha.run pos pins _ σ H _ (I.tok _) h) fun us s1 ⟨vs, H1, I1, r1, a, C, ws, ev, hl, T, ea, q⟩ => ?_) he hpl
  subst ev
  cases r1 with
  | @cons _ u0 _ ur ra rw' =>
    obtain rfl : u0 = Value.ref a := ra
    have hlen : ur.length ≤ sizeLine := by
      rw [← Paired.length rw', sizeLine_eq]
      omega
    exact oinit_ok T I1 ea hlen fun s' J => ⟨.non, H1, J, rfl, q⟩
end
end TB
end

section
set_option Elab.async false
set_option linter.all false
set_option maxRecDepth 100000
set_option autoImplicit false
set_option maxHeartbeats 1000000
/-! TB35: dicts with tuples as keys: keys, stores. -/
namespace TB
open PySem PySem.Spec PyProof.Rows L2
variable [LC] [LT]
abbrev YX : NestedKey × Addr × V → NestedKey × Addr × Value → Prop := fun y x => y.1 = x.1 ∧ y.2.1 = x.2.1 ∧ RelV y.2.2 x.2.2
section
variable {X : Cx} {pins : List (Addr × Obj)} {σ : L2.St} {H : Hp} {s : Shared} {mu : List Addr} {Z : Hp}
mutual
theorem nis (I : Inv X pins σ H s) (hz : Sub Z H) : ∀ {d : D} {v : V} {u : Value} {k : NestedKey}, Rep X.K mu Z d v → nk d = some k → RelV v u → NestedIs s.heap k u
  | .non, _, u, k, .non, e, r => by
    simp only [nk, Option.some.injEq] at e; subst e
    obtain rfl : u = .none := r
    exact .none
  | .bl b, _, u, k, .bl _, e, r => by
    simp only [nk, Option.some.injEq] at e; subst e
    obtain rfl : u = .bool b := r
    exact .bool rfl
  | .int i, _, u, k, .int _, e, r => by
    simp only [nk, Option.some.injEq] at e; subst e
    obtain ⟨t, rfl⟩ := r
    exact .int i t
  | .str x, _, u, k, .str _, e, r => by
    simp only [nk, Option.some.injEq] at e; subst e
    obtain ⟨t, rfl⟩ := r
    exact .text x t
  | .tup xs, _, u, k, .tup h rs _, e, r => by
    cases r
    simp only [nk, Option.map_eq_some_iff] at e
    obtain ⟨ks, e, rfl⟩ := e
    obtain ⟨its, rv, p, _⟩ := I.tuple (hz.tupZ h).sq
    obtain ⟨o, ho, hcl, n, hdt⟩ := p
    exact .tup ho hcl hdt (by simpa using niss I hz rs e rv)
  | .lst _, _, _, _, _, e, _ => by simp [nk] at e
  | .dic _, _, _, _, _, e, _ => by simp [nk] at e
  | .dit _, _, _, _, _, e, _ => by simp [nk] at e
  | .ins _ _, _, _, _, _, e, _ => by simp [nk] at e
  | .exn _ _, _, _, _, _, e, _ => by simp [nk] at e
  | .fn _, _, _, _, _, e, _ => by simp [nk] at e
  | .ty _, _, _, _, _, e, _ => by simp [nk] at e
  | .ref _, _, _, _, _, e, _ => by simp [nk] at e
  | .scr _, _, _, _, _, e, _ => by simp [nk] at e
theorem niss (I : Inv X pins σ H s) (hz : Sub Z H) : ∀ {ds : List D} {vs : List V} {us : List Value} {ks : List NestedKey}, Reps X.K mu Z ds vs → nks ds = some ks → Vals vs us → NestedAll s.heap ks us
  | [], _, us, ks, .nil, e, r => by
    simp only [nks, Option.some.injEq] at e; subst e
    cases r
    exact .nil
  | d :: ds, _, us, ks, .cons r0 rs, e, r => by
    simp only [nks, Option.bind_eq_some_iff, Option.map_eq_some_iff] at e
    obtain ⟨k, e1, ks', e2, rfl⟩ := e
    cases r with
    | cons q qs => exact .cons (nis I hz r0 e1 q) (niss I hz rs e2 qs)
end
theorem nkT_is (I : Inv X pins σ H s) (hz : Sub Z H) {d : D} {a : Addr} {k : NestedKey} (r : Rep X.K mu Z d (.ref a)) (e : nkT d = some k) : (nestedKind X.prog X.w).is s.heap k a := by
  unfold nkT at e
  split at e
  · obtain ⟨k', e1, e2⟩ := Option.bind_eq_some_iff.mp e
    split at e2
    · rename_i hd
      cases e2
      exact ⟨nis I hz r e1 rfl, hd⟩
    · cases e2
  · cases e
theorem keys_is (I : Inv X pins σ H s) (hz : Sub Z H) : ∀ {kds : List D} {ys : List (NestedKey × Addr × V)}, kds.map nkT = ys.map (fun y => some y.1) → Reps X.K mu Z kds (ys.map fun y => .ref y.2.1) → ∀ y, y ∈ ys → (nestedKind X.prog X.w).is s.heap y.1 y.2.1
  | [], [], _, _, y, h => by simp at h
  | [], _ :: _, e, _, _, _ => by simp at e
  | _ :: _, [], e, _, _, _ => by simp at e
  | d :: kds, y0 :: ys, e, r, y, h => by
    simp only [List.map_cons, List.cons.injEq] at e
    simp only [List.map_cons] at r
    cases r with
    | cons r0 rs =>
      rcases List.mem_cons.mp h with rfl | h
      · exact nkT_is I hz r0 e.1
      · exact keys_is I hz e.2 rs y h
end
theorem pr_mem {α β : Type} {F : α → β → Prop} : ∀ {l : List α} {m : List β}, Paired F l m → ∀ {b : β}, b ∈ m → ∃ a, a ∈ l ∧ F a b
  | _, _, .nil, _, h => by simp at h
  | _, _, .cons (a := a) h t, b, hb => by
    rcases List.mem_cons.mp hb with rfl | hb
    · exact ⟨a, List.mem_cons_self, h⟩
    · obtain ⟨c, h1, h2⟩ := pr_mem t hb
      exact ⟨c, List.mem_cons_of_mem _ h1, h2⟩
/-- what is told of the dict, with its keys -/
theorem ndo_heap {X : Cx} {pins : List (Addr × Obj)} {σ : L2.St} {H : Hp} {s : Shared} {a : Addr} {ys : List (NestedKey × Addr × V)} (I : Inv X pins σ H s) (hd : Rd H a (NDO X.w a ys)) (hk : ∀ y, y ∈ ys → (nestedKind X.prog X.w).is s.heap y.1 y.2.1) :
    ∃ xs, Paired YX ys xs ∧ s.heap.DictOfH (nestedKind X.prog X.w) a xs ∧ (a == sysModules) = false ∧ ys.length ≤ sizeLine := by
  obtain ⟨⟨lo, lz, xs, pr, nd, o, es, ep, ho, hx, hdt, hes⟩, _⟩ := hd.ok I.hok
  refine ⟨xs, pr, ⟨o, es, ep, ho, hx, hdt, hes, fun x hx => ?_, nd⟩, lo, lz⟩
  obtain ⟨y, hy, e1, e2, _⟩ := pr_mem pr hx
  have := hk y hy
  rw [e1, e2] at this
  exact this
theorem ndo_new {P : Program} {w : World} {H' : Hp} {h' : Heap} {a : Addr} {ys : List (NestedKey × Addr × V)} {xs : List (NestedKey × Addr × Value)} (lo : (a == sysModules) = false) (lz : ys.length ≤ sizeLine) (pr : Paired YX ys xs) (dd : h'.DictOfH (nestedKind P w) a xs) : ObjOk P w H' h' a (NDO w a ys) := by
  obtain ⟨o, es, ep, ho, hx, hdt, hes, _, nd⟩ := dd
  refine ⟨⟨lo, lz, xs, pr, nd, o, es, ep, ho, hx, hdt, hes⟩, ⟨o, ho⟩, ?_⟩
  rintro h1 h2 ⟨a1, a2, xs1, a3, a4, o1, es1, ep1, ho1, a5⟩ k
  exact ⟨a1, a2, xs1, a3, a4, o1, es1, ep1, k _ ho1, a5⟩
/-! ### a store -/
def putY (ys : List (NestedKey × Addr × V)) (k : NestedKey) (b : Addr) (v : V) : List (NestedKey × Addr × V) :=
  if (ys.any fun y => decide (y.1 = k)) = true then ys.map (fun y => if y.1 = k then (y.1, y.2.1, v) else y) else ys ++ [(k, b, v)]
def putT (kts : List (D × D)) (kd : D) (v : D) (k : NestedKey) : List (D × D) :=
  if (kts.any fun p => decide (nkT p.1 = some k)) = true then kts.map (fun p => if nkT p.1 = some k then (p.1, v) else p) else kts ++ [(kd, v)]
theorem any_at {ys : List (NestedKey × Addr × V)} {xs : List (NestedKey × Addr × Value)} (p : Paired YX ys xs) (k : NestedKey) : (ys.any fun y => decide (y.1 = k)) = (atKey xs k).isSome := by
  induction p with
  | nil => rfl
  | @cons y x ys xs h t ih =>
    by_cases hk : x.1 = k
    · simp [atKey, h.1, hk]
    · simpa [atKey, h.1, hk] using ih
theorem pr_map {ys : List (NestedKey × Addr × V)} {xs : List (NestedKey × Addr × Value)} (p : Paired YX ys xs) {k : NestedKey} {v : V} {r : Value} (rv : RelV v r) : Paired YX (ys.map fun y => if y.1 = k then (y.1, y.2.1, v) else y) (xs.map (putAt k r)) := by
  induction p with
  | nil => exact .nil
  | @cons y x ys xs h t ih =>
    refine .cons ?_ ih
    unfold putAt
    show YX (if y.1 = k then (y.1, y.2.1, v) else y) _
    by_cases hk : x.1 = k
    · rw [if_pos (h.1.trans hk), if_pos hk]
      exact ⟨h.1, h.2.1, rv⟩
    · rw [if_neg (fun z => hk (h.1.symm.trans z)), if_neg hk]
      exact h
theorem pr_app {α β : Type} {F : α → β → Prop} {a : α} {b : β} (h : F a b) : ∀ {l : List α} {m : List β}, Paired F l m → Paired F (l ++ [a]) (m ++ [b])
  | _, _, .nil => .cons h .nil
  | _, _, .cons h0 t => .cons h0 (pr_app h t)
theorem pr_put {ys : List (NestedKey × Addr × V)} {xs : List (NestedKey × Addr × Value)} (p : Paired YX ys xs) {k : NestedKey} {b : Addr} {v : V} {r : Value} (rv : RelV v r) : Paired YX (putY ys k b v) (storedH xs k b r) := by
  unfold putY storedH
  rw [any_at p]
  split
  · exact pr_map p rv
  · exact pr_app ⟨rfl, rfl, rv⟩ p
theorem putY_len (ys : List (NestedKey × Addr × V)) (k : NestedKey) (b : Addr) (v : V) : (putY ys k b v).length ≤ ys.length + 1 := by
  unfold putY
  split
  · simp
  · simp
theorem putT_len (kts : List (D × D)) (kd v : D) (k : NestedKey) : (putT kts kd v k).length ≤ kts.length + 1 := by
  unfold putT
  split
  · simp
  · simp
section
variable {K : PySem.W.Frag} {mu : List Addr} {Z H : Hp}
/-- a dict as it is told, in the layer -/
structure Tw (K : PySem.W.Frag) (mu : List Addr) (Z : Hp) (kts : List (D × D)) (ys : List (NestedKey × Addr × V)) : Prop where
  ky : kts.map (fun p => nkT p.1) = ys.map (fun y => some y.1)
  kr : Reps K mu Z (kts.map (·.1)) (ys.map fun y => .ref y.2.1)
  vr : Reps K mu Z (kts.map (·.2)) (ys.map (·.2.2))
theorem Tw.len {kts : List (D × D)} {ys : List (NestedKey × Addr × V)} (t : Tw K mu Z kts ys) : kts.length = ys.length := by simpa using congrArg List.length t.ky
theorem Tw.mono {mu' : List Addr} {Z' : Hp} {kts : List (D × D)} {ys : List (NestedKey × Addr × V)} (t : Tw K mu Z kts ys) (hm : ∀ (n : Nat) (a : Addr), mu[n]? = some a → mu'[n]? = some a) (hz : Sub Z Z') : Tw K mu' Z' kts ys := ⟨t.ky, t.kr.mono hm hz, t.vr.mono hm hz⟩
theorem Tw.any {k : NestedKey} : ∀ {kts : List (D × D)} {ys : List (NestedKey × Addr × V)}, kts.map (fun p => nkT p.1) = ys.map (fun y => some y.1) → (kts.any fun p => decide (nkT p.1 = some k)) = ys.any fun y => decide (y.1 = k)
  | [], [], _ => rfl
  | [], _ :: _, e => by simp at e
  | _ :: _, [], e => by simp at e
  | p :: kts, y :: ys, e => by
    simp only [List.map_cons, List.cons.injEq] at e
    simp only [List.any_cons, e.1, Tw.any e.2, Option.some.injEq]
theorem tw_map {k : NestedKey} {d : D} {v : V} (r : Rep K mu Z d v) : ∀ {kts : List (D × D)} {ys : List (NestedKey × Addr × V)}, Tw K mu Z kts ys → Tw K mu Z (kts.map fun p => if nkT p.1 = some k then (p.1, d) else p) (ys.map fun y => if y.1 = k then (y.1, y.2.1, v) else y)
  | [], [], t => t
  | [], _ :: _, t => by have := t.len; simp at this
  | _ :: _, [], t => by have := t.len; simp at this
  | p :: kts, y :: ys, t => by
    obtain ⟨e, kr, vr⟩ := t
    simp only [List.map_cons, List.cons.injEq] at e kr vr
    cases kr with
    | cons k1 k2 =>
      cases vr with
      | cons v1 v2 =>
        have ih := tw_map (k := k) (d := d) (v := v) r (kts := kts) (ys := ys) ⟨e.2, k2, v2⟩
        by_cases hk : y.1 = k
        · have hn : nkT p.1 = some k := by rw [e.1, hk]
          refine ⟨?_, ?_, ?_⟩
          · simp only [List.map_cons, if_pos hk, if_pos hn, List.cons.injEq]; exact ⟨e.1, ih.ky⟩
          · simp only [List.map_cons, if_pos hk, if_pos hn]; exact .cons k1 ih.kr
          · simp only [List.map_cons, if_pos hk, if_pos hn]; exact .cons r ih.vr
        · have hn : ¬ nkT p.1 = some k := fun z => hk (by rw [e.1] at z; exact Option.some.inj z)
          refine ⟨?_, ?_, ?_⟩
          · simp only [List.map_cons, if_neg hk, if_neg hn, List.cons.injEq]; exact ⟨e.1, ih.ky⟩
          · simp only [List.map_cons, if_neg hk, if_neg hn]; exact .cons k1 ih.kr
          · simp only [List.map_cons, if_neg hk, if_neg hn]; exact .cons v1 ih.vr
theorem Tw.put {kts : List (D × D)} {ys : List (NestedKey × Addr × V)} (t : Tw K mu Z kts ys) {k : NestedKey} {kd d : D} {b : Addr} {v : V} (e : nkT kd = some k) (rk : Rep K mu Z kd (.ref b)) (r : Rep K mu Z d v) : Tw K mu Z (putT kts kd d k) (putY ys k b v) := by
  unfold putT putY
  rw [Tw.any t.ky]
  split
  · exact tw_map r t
  · refine ⟨?_, ?_, ?_⟩
    · simp only [List.map_append, t.ky, List.map_cons, List.map_nil, e]
    · simp only [List.map_append, List.map_cons, List.map_nil]; exact t.kr.append (.cons rk .nil)
    · simp only [List.map_append, List.map_cons, List.map_nil]; exact t.vr.append (.cons r .nil)
theorem Tw.keys {X : Cx} {pins : List (Addr × Obj)} {σ : L2.St} {s : Shared} {kts : List (D × D)} {ys : List (NestedKey × Addr × V)} (t : Tw X.K mu Z kts ys) (I : Inv X pins σ H s) (hz : Sub Z H) : ∀ y, y ∈ ys → (nestedKind X.prog X.w).is s.heap y.1 y.2.1 :=
  keys_is I hz (kds := kts.map (·.1)) (by rw [List.map_map]; exact t.ky) t.kr
end
/-- a key that is a tuple, as the layer has it -/
def KyR (K : PySem.W.Frag) (H : Hp) (v : V) (k : NestedKey) : Prop := ∃ mu Z d, Sub Z H ∧ Rep K mu Z d v ∧ nkT d = some k
def KsR (K : PySem.W.Frag) (H : Hp) (ys : List (NestedKey × Addr × V)) : Prop := ∀ y, y ∈ ys → KyR K H (.ref y.2.1) y.1
theorem KyR.is {X : Cx} {pins : List (Addr × Obj)} {σ : L2.St} {H : Hp} {s : Shared} (I : Inv X pins σ H s) {v : V} {k : NestedKey} {u : Value} (h : KyR X.K H v k) (r : RelV v u) : ∃ a, u = .ref a ∧ v = .ref a ∧ (nestedKind X.prog X.w).is s.heap k a := by
  obtain ⟨mu, Z, d, hz, rp, e⟩ := h
  unfold nkT at e
  split at e
  · cases rp with
    | tup h1 h2 h3 =>
      cases r
      exact ⟨_, rfl, rfl, nkT_is I hz (.tup h1 h2 h3) (by unfold nkT; exact e)⟩
  · cases e
theorem Tw.ks {K : PySem.W.Frag} {mu : List Addr} {Z H : Hp} (hz : Sub Z H) : ∀ {kts : List (D × D)} {ys : List (NestedKey × Addr × V)}, Tw K mu Z kts ys → KsR K H ys
  | [], [], _, y, h => by simp at h
  | [], _ :: _, t, _, _ => by have := t.len; simp at this
  | _ :: _, [], t, _, _ => by have := t.len; simp at this
  | p :: kts, y0 :: ys, t, y, h => by
    obtain ⟨e, kr, vr⟩ := t
    simp only [List.map_cons, List.cons.injEq] at e kr vr
    cases kr with
    | cons k1 k2 =>
      cases vr with
      | cons v1 v2 =>
        rcases List.mem_cons.mp h with rfl | h
        · exact ⟨mu, Z, _, hz, k1, e.1⟩
        · exact Tw.ks hz (kts := kts) ⟨e.2, k2, v2⟩ y h
/-- D[k] = v by a comprehension -/
theorem d_setN {X : Cx} {pins : List (Addr × Obj)} {σ : L2.St} {H : Hp} {s : Shared} {E : Value → Shared → Prop} {a : Addr} {ys : List (NestedKey × Addr × V)} {k : NestedKey} {y v : V} {u r : Value} {Q : Unit → Shared → Prop} (hu : X.A.units + 8 < cLine) (I : Inv X pins σ H s)
    (hd : H a = some (NDO X.w a ys)) (hk : KsR X.K H ys) (ky : KyR X.K H y k) (lz : ys.length < sizeLine) (ry : RelV y u) (rv : RelV v r) (h : ∀ b s', y = .ref b → Inv X pins σ (upd H a (NDO X.w a (putY ys k b v))) s' → Q () s') : wpAny (model X.prog X.w) X.A (dictSet a u r) Q E s := by
  obtain ⟨b, rfl, ey, hb⟩ := ky.is I ry
  obtain ⟨xs, pr, dd, lo, lz'⟩ := ndo_heap I (.inl hd) fun y hy => by
    obtain ⟨c, e1, e2, e3⟩ := (hk y hy).is I (u := .ref y.2.1) rfl
    cases e1
    exact e3
  have lx : xs.length ≤ sizeLine := by rw [← pr.length]; exact lz'
  refine wpAny_dictSet_heap (knd := nestedKind X.prog X.w) (hsz := lx) hu hb dd fun h' dd' hs => h b _ ey ?_
  have he : ∃ q, h'.get? a = some q := let ⟨q, _, _, hq, _⟩ := dd'; ⟨q, hq⟩
  have lp : (putY ys k b v).length ≤ sizeLine := by have := putY_len ys k b v; omega
  exact d_write I (by rw [hd]; exact True.intro) hs he (ndo_new lo lp (pr_put pr rv) dd')
end TB
end

section
set_option Elab.async false
set_option linter.all false
set_option maxRecDepth 100000
set_option autoImplicit false
set_option maxHeartbeats 1000000
/-! TB36: dicts by comprehension, keys tuples. -/
namespace TB
open PySem PySem.Spec PyProof.Rows L2
variable [LC] [LT]
section
variable {X : Cx}
/-- {k: v for tg in iter if ..} with tuples for keys: ys stands at a before turn i -/
def tDn (K : PySem.W.Frag) (w : World) (wi : TI) (g : TG) (tt : TT) (tk tv : TE) (own : List Nat) : TE := fun σ H Q => wi σ H fun J H0 => ∀ a, H0 a = none → ∃ P : Nat → Nat → Hp → Prop, (∃ m, P 0 m (upd H0 a (NDO w a []))) ∧ ∀ i m H, P i m H →
  (J.stop i H ∧ Q (.ref a) H) ∨ (J.go i H ∧ ∃ P' : Hp → Prop, (∀ H', P' H' → ∃ m', m' < m ∧ P (i + 1) m' H') ∧ ∀ x H', J.yld i H x H' → g x (wipe σ own) H' fun τ H2 => wipe τ own = wipe σ own ∧ tt τ H2 fun c H3 =>
    if c = true then tk τ H3 fun y H4 => tv τ H4 fun z H5 => ∃ ys k, H5 a = some (NDO w a ys) ∧ KsR K H5 ys ∧ KyR K H5 y k ∧ ys.length < sizeLine ∧ ∀ b, y = .ref b → P' (upd H5 a (NDO w a (putY ys k b z))) else P' H3)
variable {kx vx tg iter : Expr} {ifs : List Expr} {scope : Scope} {own : List (Str × Nat)} {pos : Pos} {wi : TI} {g : TG} {tt : TT} {tk tv : TE}
theorem pe_dn (hu : X.A.units + 8 < cLine) (hc : X.calm = true) (hN : X.N.Nodup) (hi : PI X tg iter wi) (ok : BlkOk X.N X.env.scope scope own)
    (hg : ∀ (s : Shared) (H : Hp) (C : Addr) (cl : List (Str × Addr)) (fp : List Addr), PG (X.blk s H scope (compEnvC scope cl C X.env) fp) tg g)
    (ht : ∀ (s : Shared) (H : Hp) (C : Addr) (cl : List (Str × Addr)) (fp : List Addr), PTs (X.blk s H scope (compEnvC scope cl C X.env) fp) ifs tt)
    (hk : ∀ (s : Shared) (H : Hp) (C : Addr) (cl : List (Str × Addr)) (fp : List Addr), PE (X.blk s H scope (compEnvC scope cl C X.env) fp) kx tk)
    (hv : ∀ (s : Shared) (H : Hp) (C : Addr) (cl : List (Str × Addr)) (fp : List Addr), PE (X.blk s H scope (compEnvC scope cl C X.env) fp) vx tv) (hs : ∀ x, foldedSetIterable iter X.env x = pure x) :
    PE X (.DictComp kx vx [⟨tg, iter, ifs, 0⟩] scope pos) (tDn X.K X.w wi g tt tk tv (own.map (·.2))) := by
  refine ⟨fun pins s σ H Q I q0 => ?_⟩
  have cap : ∀ y ∈ scope.names, y.2 = .free → ∃ c, X.env.cells.lookup y.1 = some c := fun y hy e => (ok.free y hy e).elim (fun z => I.ok.has _ (.inl z)) fun z => I.ok.has _ (.inr z)
  rw [arm_eval_DictComp]
  refine wpAny_comprehension_free (use := none) rfl hs (closure_ok cap) ok.kind (fun y hy e => by rw [ok.uniq y hy, e]) (thn (hi.run pins s σ H _ I q0) fun src s1 h1 => thn h1 fun itv s2 h2 => ?_)
  obtain ⟨it, fp, tn, J, H2, rfl, I2, T, st2, f2, q⟩ := h2
  have lt2 : ∀ b ∈ fp, b < s2.heap.objs.size := fun b hb => let ⟨_, e, _⟩ := T.obj _ _ st2 b hb; Heap.lt_size e
  refine wpAny_newObj_type (newEnv_comp ?_)
  have na : H2 s2.heap.objs.size = none := I2.hok.fresh (Nat.le_refl _)
  obtain ⟨P, ⟨m0, p0⟩, turn⟩ := q _ na
  have oa : ObjOk X.prog X.w (upd H2 s2.heap.objs.size (NDO X.w s2.heap.objs.size [])) (s2.heap.push { cls := .type "dict", data := .dict #[] }) s2.heap.objs.size (NDO X.w s2.heap.objs.size []) :=
    ndo_new (beq_eq_false_iff_ne.mpr (Ne.symm (Nat.ne_of_lt I2.big))) (Nat.zero_le _) .nil (Heap.DictOfH.new s2.heap)
  have I3 : Inv X pins σ (upd H2 s2.heap.objs.size (NDO X.w s2.heap.objs.size [])) { s2 with heap := s2.heap.push { cls := .type "dict", data := .dict #[] } } := I2.laid (t' := s2.toks) (fun b o e => Heap.get?_push_of_some _ e) (Nat.le_refl _) oa
  have z3 : (s2.heap.push { cls := .type "dict", data := .dict #[] }).objs.size = s2.heap.objs.size + 1 := Heap.size_push ..
  have st3 : tn 0 (s2.heap.push { cls := .type "dict", data := .dict #[] }) := T.keep _ _ _ st2 fun b _ o e => Heap.get?_push_of_some _ e
  generalize ea : s2.heap.objs.size = a at na p0 turn oa I3 z3 lt2 ⊢
  generalize eh : s2.heap.push { cls := .type "dict", data := .dict #[] } = h3 at I3 z3 st3 ⊢
  have f3 : ∀ b ∈ fp, FpOk X pins (upd H2 a (NDO X.w a [])) b ∧ b < h3.objs.size := fun b hb => by
    have := lt2 b hb
    exact ⟨⟨by rw [upd_ne (Nat.ne_of_lt this)]; exact (f2 b hb).1, (f2 b hb).2⟩, by rw [z3]; exact Nat.lt_succ_of_lt this⟩
  have I4 := block_start I3 ok hN f3
  generalize e3 : upd H2 a (NDO X.w a []) = H3 at I3 I4 p0 f3
  have n3 : ∀ b ∈ fp, H3 b = none := fun b hb => (f3 b hb).1.1
  let S3 : Shared := { s2 with heap := h3 }
  have I4 : Inv (X.blk S3 H3 scope (compEnvC scope (cellsFrom (h3.objs.size + 1) scope.names (cloFrom X.env.cells scope.names [])) h3.objs.size X.env) fp) [] (wipe σ (own.map (·.2))) H3 { s2 with heap := pushCells (h3.push { cls := .type "dict", data := .dict #[] }) scope.names } := I4
  have pg := hg S3 H3 h3.objs.size (cellsFrom (h3.objs.size + 1) scope.names (cloFrom X.env.cells scope.names [])) fp
  have pt := ht S3 H3 h3.objs.size (cellsFrom (h3.objs.size + 1) scope.names (cloFrom X.env.cells scope.names [])) fp
  have pk := hk S3 H3 h3.objs.size (cellsFrom (h3.objs.size + 1) scope.names (cloFrom X.env.cells scope.names [])) fp
  have pv := hv S3 H3 h3.objs.size (cellsFrom (h3.objs.size + 1) scope.names (cloFrom X.env.cells scope.names [])) fp
  show codeAny _ _ (.compStart (.DictComp kx vx [⟨tg, iter, ifs, 0⟩] scope pos) 0 (.ref it) (.ref a) (compEnvC scope (cellsFrom (h3.objs.size + 1) scope.names (cloFrom X.env.cells scope.names [])) h3.objs.size X.env)) (compPost (model X.prog X.w) X.A X.xe none (EP X pins σ Q) (.ref a) h3.objs.size) { s2 with heap := pushCells (h3.push { cls := .type "dict", data := .dict #[] }) scope.names }
  generalize ec : compEnvC scope (cellsFrom (h3.objs.size + 1) scope.names (cloFrom X.env.cells scope.names [])) h3.objs.size X.env = ce at I4 pg pt pk pv ⊢
  have lc : ce.locals = h3.objs.size := by rw [← ec]; rfl
  generalize e4 : ({ s2 with heap := pushCells (h3.push { cls := .type "dict", data := .dict #[] }) scope.names } : Shared) = s4 at I4 ⊢
  have st4 : tn 0 s4.heap := T.keep _ _ _ st3 fun b _ o e => by rw [← e4]; exact pushCells_keeps _ _ _ _ (Heap.get?_push_of_some _ e)
  -- the iterator's own objects within the block
  have own4 : ∀ {τ : L2.St} {H' : Hp} {s' : Shared}, Inv (X.blk S3 H3 scope ce fp) [] τ H' s' → (∀ b ∈ fp, H' b = none) → ∀ b ∈ fp, FpOk (X.blk S3 H3 scope ce fp) [] H' b := fun {τ H' s'} I' n b hb =>
    ⟨n b hb, (I'.ok.exf b hb).1, I'.ok.exfs b hb, .inl hb, fun x c e => (I'.ok.exf b hb).2 x c e, fun p hp => absurd (show p ∈ ([] : List (Addr × Obj)) ++ [] from hp) (by simp)⟩
  have run : codeAny (model X.prog X.w) X.A (.compLoop (.DictComp kx vx [⟨tg, iter, ifs, 0⟩] scope pos) 0 (.ref it) (.ref a) ce) (compPost (model X.prog X.w) X.A X.xe none (EP X pins σ Q) (.ref a) h3.objs.size) s4 := by
    refine compLoop_anyD (fun m s' => ∃ i H', Inv (X.blk S3 H3 scope ce fp) [] (wipe σ (own.map (·.2))) H' s' ∧ tn i s'.heap ∧ (∀ b ∈ fp, H' b = none) ∧ P i m H') (fun m s5 hm => ?_) m0 ⟨0, H3, I4, st4, n3, p0⟩
    obtain ⟨i, H5, I5, st5, n5, p5⟩ := hm
    rcases turn i m H5 p5 with ⟨stop, fin⟩ | ⟨go, P', hP, step⟩
    · refine thnF (T.done (X.blk S3 H3 scope ce fp) rfl rfl rfl hc i [] s5 _ H5 (fun _ _ => False) I5 (own4 I5 n5) st5 stop) fun r s6 hr => ?_
      obtain ⟨rfl, I6⟩ := hr
      have I7 : Inv X pins σ H5 s6 := I3.call' (ch := fp) I6.os I6.base I6.hok I6.bare fun b hb => ⟨(f3 b hb).1.2.2.2.1, (f3 b hb).1.2.1, (f3 b hb).1.2.2.2.2.1, (f3 b hb).1.2.2.2.2.2⟩
      obtain ⟨mn, hn, _⟩ := I6.loc
      have hn : s6.heap.Ns ce.locals mn := hn
      have fr : H5 ce.locals = none := I6.free
      rw [lc] at hn fr
      have fC : FpOk X pins H5 h3.objs.size := I3.fpOk (Nat.le_refl _) fr
      exact ⟨mn, hn, fun h'' sb => ⟨.ref a, H5, I7.turned (t' := s6.toks) (fun b o hb e => (sb.2 b hb).trans e) fC.1 fC.2.1 fC.2.2.2.1 fC.2.2.2.2.1 fC.2.2.2.2.2, rfl, fin⟩⟩
    · refine thnF (T.item (X.blk S3 H3 scope ce fp) rfl rfl rfl hc i [] s5 _ H5 (fun _ _ => False) I5 (own4 I5 n5) st5 go) fun r s6 hr => ?_
      obtain ⟨u, rfl, h6⟩ := hr
      refine thnF h6 fun _ s7 h7 => ?_
      obtain ⟨x, H7, I7, r7, y7, st7, n7⟩ := h7
      have back : ∀ {τ : L2.St} {s' : Shared} {H' : Hp}, wipe τ (own.map (·.2)) = wipe σ (own.map (·.2)) → Inv (X.blk S3 H3 scope ce fp) ([] ++ pinsAt fp s7.heap) τ H' s' → P' H' → ∃ m', m' < m ∧ ∃ i H', Inv (X.blk S3 H3 scope ce fp) [] (wipe σ (own.map (·.2))) H' s' ∧ tn i s'.heap ∧ (∀ b ∈ fp, H' b = none) ∧ P i m' H' := fun {τ s' H'} hw I' hp => by
        obtain ⟨m', lt, p'⟩ := hP H' hp
        have pin : ∀ b ∈ fp, ∀ o, s7.heap.get? b = some o → s'.heap.get? b = some o ∧ H' b = none := fun b hb o e => by
          have z := I'.pin (b, o) (List.mem_append_right _ (List.mem_append_right _ (mem_pinsAt hb e)))
          exact ⟨z.1, z.2.1⟩
        refine ⟨m', lt, i + 1, H', (I'.unpinned (pins := [])).weak (by rw [← hw, wipe_length]) (fun j v e => ?_), T.keep _ _ _ st7 fun b hb o e => (pin b hb o e).1, fun b hb => ?_, p'⟩
        · rw [← hw] at e
          exact (wipe_some e).1
        · obtain ⟨o, e, _⟩ := T.obj _ _ st7 b hb
          exact (pin b hb o e).2
      refine thnF (pg.run _ s7 _ H7 x u _ (I7.pinned (own4 I7 n7) (T.obj _ _ st7)) r7 (step x H7 y7)) fun _ s8 h8 => ?_
      obtain ⟨τ, H8, I8, hw, q8⟩ := h8
      refine thnF (pt.run _ s8 τ H8 _ I8 q8) fun c s9 h9 => ?_
      obtain ⟨H9, I9, q9⟩ := h9
      cases c with
      | false => exact back hw I9 q9
      | true =>
        refine thnF (pk.run _ s9 τ H9 _ I9 q9) fun ku s10 h10 => ?_
        obtain ⟨y, H10, I10, r10, q10⟩ := h10
        refine thnF (pv.run _ s10 τ H10 _ I10 q10) fun vu s11 h11 => ?_
        obtain ⟨z, H11, I11, r11, ys, k, hd, hks, hky, lz, nx⟩ := h11
        exact d_setN (X := X.blk S3 H3 scope ce fp) hu I11 hd hks hky lz r10 r11 fun b s12 ey I12 => back hw I12 (nx b ey)
  exact codeAny_compStart_dict run (T.self X.A 0 _ _ _ st4 run)
end
end TB
end

section
set_option Elab.async false
set_option linter.all false
set_option maxRecDepth 100000
set_option autoImplicit false
set_option maxHeartbeats 1000000
/-! TB37: dicts by comprehension, keys tuples: over pure values. -/
namespace TB
open PySem PySem.Spec PyProof.Rows L2
variable [LC] [LT]
def mkN (kts : List (D × D)) (h : Hh) : Res D := .ok (.ref h.length) (h ++ [.dit kts])
open Classical in
noncomputable def dnL (g : GM) (ft : TM) (fk fv : EM) (own : List Nat) (lk : Lk) (s : Sl) : List D → List (D × D) → Hh → Res (List (D × D))
  | [], acc, h => if lockOk lk h then .ok acc h else .bad
  | x :: xs, acc, h => if lockOk lk h then bnd (g x (wip s own) h) fun s1 h1 => bnd (ft s1 h1) fun b h2 => if b = true then bnd (fk s1 h2) fun y h3 => bnd (fv s1 h3) fun z h4 => (match nkT y with
      | some k => dnL g ft fk fv own lk s xs (putT acc y z k) h4
      | none => .bad) else dnL g ft fk fv own lk s xs acc h2 else .bad
noncomputable def mDn (im : IM) (g : GM) (ft : TM) (fk fv : EM) (own : List Nat) : EM := fun s h => (im s h).bind fun p h1 => (dnL g ft fk fv own p.2 s p.1 [] h1).bind fun ks h2 => mkN ks h2
section
variable {W : WXx} {X : Cx} {kx vx tg iter : Expr} {ifs : List Expr} {scope : Scope} {own : List (Str × Nat)} {pos : Pos} {im : IM} {g : GM} {ft : TM} {fk fv : EM}
theorem dn_step {K : PySem.W.Frag} {w : World} (hw : LC.W = w) {vs : List Nat} {sg : L2.St} {H : Hp} {Q : VK} (o : tE K W (mDn im g ft fk fv vs) sg H Q) : tDn K w (tI K W im) (tGO K g vs) (tT K WF ft) (tE K WF fk) (tE K WF fv) vs sg H Q := by
  obtain ⟨mu, Z, h, s, sr, sl, _, o⟩ := o
  refine ⟨mu, Z, h, s, sr, sl, ?_⟩
  unfold mDn at o
  cases ei : im s h with
  | ex x h1 => simp only [ei, Res.bind_ex] at o; exact o
  | bad => simp only [ei, Res.bind_bad] at o; exact o.elim
  | ok p h1 =>
    simp only [ei, Res.bind_ok] at o
    intro mu1 Z1 H1 sr1 p1 J wk Dd hD
    have o1 := Out.mono p1 o fun _ _ _ _ _ _ q => q
    obtain ⟨f1, f2⟩ := sr1.fresh hD
    refine ⟨fun i m H => i ≤ p.1.length ∧ m = p.1.length - i ∧ ∃ mu Z h acc kvs, SR K mu Z H h ∧ Stp mu1 Z1 H1 mu Z H ∧ Dd ∉ mu ∧ Z Dd = none ∧ H Dd = some (NDO w Dd kvs) ∧ Tw K mu Z acc kvs ∧ acc.length ≤ i ∧
      Out K mu1 Z1 H1 ((dnL g ft fk fv vs p.2 s (p.1.drop i) acc h).bind fun ks h2 => mkN ks h2) (fun c d H' => W c d sg H') fun v mu' Z' H' _ => ∀ u, Rep K mu' Z' v u → Q u H', ⟨p.1.length, Nat.zero_le _, by simp, mu1, Z1, h1, [], [], sr1.updF f1 f2 (.non hD) _, (Stp.refl _ _ _).updF hD _, f1, f2, upd_same, ⟨rfl, .nil, .nil⟩, Nat.le_refl _, o1⟩, ?_⟩
    rintro i m H2 ⟨hi, rfl, mu2, Z2, h2, acc, kvs, sr2, p2, d1, d2, d3, rp, hl, o2⟩
    by_cases hlt : i < p.1.length
    · right
      have ed : p.1.drop i = p.1[i] :: p.1.drop (i + 1) := List.drop_eq_getElem_cons hlt
      rw [ed] at o2
      simp only [dnL] at o2
      by_cases hlk : lockOk p.2 h2
      · rw [if_pos hlk] at o2
        refine ⟨wk.go mu2 Z2 H2 h2 i sr2 p2.pre p2.zm hlk hlt, fun H => ∃ mu Z h acc kvs, SR K mu Z H h ∧ Stp mu1 Z1 H1 mu Z H ∧ Dd ∉ mu ∧ Z Dd = none ∧ H Dd = some (NDO w Dd kvs) ∧ Tw K mu Z acc kvs ∧ acc.length ≤ i + 1 ∧
          Out K mu1 Z1 H1 ((dnL g ft fk fv vs p.2 s (p.1.drop (i + 1)) acc h).bind fun ks h2 => mkN ks h2) (fun c d H' => W c d sg H') fun v mu' Z' H' _ => ∀ u, Rep K mu' Z' v u → Q u H', fun H' q => ⟨p.1.length - (i + 1), by omega, hlt, rfl, q⟩, fun x H3 y => ?_⟩
        obtain ⟨Z3, sr3, p3, d, ed3, r3⟩ := wk.yl mu2 Z2 H2 h2 i x H3 sr2 p2.pre p2.zm hlk hlt y
        rw [List.getElem?_eq_getElem hlt] at ed3
        cases ed3
        obtain ⟨d1, d2, d3⟩ := p3.keepD d1 d2 d3
        have p13 := p2.trans p3
        have rp := rp.mono (pre_get p3.pre) p3.zm
        have sl3 := ((sl.mono p1).mono p13).wip vs
        refine ⟨mu2, Z3, h2, wip s vs, p.1[i], sr3, sl3, r3, ?_⟩
        cases eg : g p.1[i] (wip s vs) h2 with
        | ex x h1 => simp only [eg, bnd, Res.bind_bad] at o2; exact o2.elim
        | bad => simp only [eg, bnd, Res.bind_bad] at o2; exact o2.elim
        | ok s4 h4 =>
          simp only [eg, bnd] at o2
          intro mu4 Z4 H4 sr4 p4 sg4 sl4 w4
          obtain ⟨d1, d2, d3⟩ := p4.keepD d1 d2 d3
          have p14 := p13.trans p4
          have rp := rp.mono (pre_get p4.pre) p4.zm
          refine ⟨w4.trans wipe_wipe, mu4, Z4, h4, s4, sr4, sl4, ?_⟩
          cases et : ft s4 h4 with
          | ex x h1 => simp only [et, Res.bind_bad] at o2; exact o2.elim
          | bad => simp only [et, Res.bind_bad] at o2; exact o2.elim
          | ok b h5 =>
            simp only [et] at o2
            intro mu5 Z5 H5 sr5 p5
            obtain ⟨d1, d2, d3⟩ := p5.keepD d1 d2 d3
            have p15 := p14.trans p5
            have rp := rp.mono (pre_get p5.pre) p5.zm
            cases b with
            | false =>
              rw [if_neg Bool.false_ne_true] at o2 ⊢
              exact ⟨mu5, Z5, h5, acc, kvs, sr5, p15, d1, d2, d3, rp, by omega, o2⟩
            | true =>
              rw [if_pos rfl] at o2 ⊢
              refine ⟨mu5, Z5, h5, s4, sr5, sl4.mono p5, .nil, ?_⟩
              cases ee : fk s4 h5 with
              | ex x h1 => simp only [ee, Res.bind_bad] at o2; exact o2.elim
              | bad => simp only [ee, Res.bind_bad] at o2; exact o2.elim
              | ok yk h6 =>
                simp only [ee] at o2
                intro mu6 Z6 H6 sr6 p6 uk ruk
                obtain ⟨d1, d2, d3⟩ := p6.keepD d1 d2 d3
                have p16 := p15.trans p6
                have rp := rp.mono (pre_get p6.pre) p6.zm
                refine ⟨mu6, Z6, h6, s4, sr6, (sl4.mono p5).mono p6, .nil, ?_⟩
                cases ev : fv s4 h6 with
                | ex x h1 => simp only [ev, Res.bind_bad] at o2; exact o2.elim
                | bad => simp only [ev, Res.bind_bad] at o2; exact o2.elim
                | ok z h7 =>
                  simp only [ev] at o2
                  intro mu7 Z7 H7 sr7 p7 uz ruz
                  obtain ⟨d1, d2, d3⟩ := p7.keepD d1 d2 d3
                  have p17 := p16.trans p7
                  have rp := rp.mono (pre_get p7.pre) p7.zm
                  split at o2
                  · rename_i k hk
                    have rk := p7.rep ruk
                    refine ⟨kvs, k, d3, rp.ks sr7.zin, ⟨_, _, _, sr7.zin, rk, hk⟩, ?_, fun bb eb => ?_⟩
                    · have := rp.len
                      have := wk.len
                      omega
                    · subst eb
                      refine ⟨mu7, Z7, h7, putT acc yk z k, putY kvs k bb uz, sr7.updF d1 d2 (.som d3 (fun _ z => by cases z) fun _ _ z => nd_code z) _, p17.updF hD _, d1, d2, upd_same, rp.put hk rk ruz, ?_, o2⟩
                      have := putT_len acc yk z k
                      omega
                  · exact o2.elim
      · rw [if_neg hlk] at o2
        exact o2.elim
    · left
      have hi2 : i = p.1.length := by omega
      subst hi2
      rw [List.drop_length] at o2
      simp only [dnL] at o2
      by_cases hlk : lockOk p.2 h2
      · rw [if_pos hlk] at o2
        refine ⟨wk.st mu2 Z2 H2 h2 sr2 p2.pre p2.zm hlk, ?_⟩
        have hz := Nat.le_trans hl wk.len
        obtain ⟨q1, q2⟩ := sr2.mkOb p2 d1 d2 hD (.dit acc) ⟨kvs, by rw [hw]; exact d3, (rp.mono (pre_get ⟨[Dd], rfl⟩) (Sub.refl _)).ky, hz, (rp.mono (pre_get ⟨[Dd], rfl⟩) (Sub.refl _)).kr, (rp.mono (pre_get ⟨[Dd], rfl⟩) (Sub.refl _)).vr⟩
        exact o2 _ _ _ q1 q2 _ (.ref (by rw [← sr2.len]; simp))
      · rw [if_neg hlk] at o2
        exact o2.elim
theorem se_dn (hw : LC.W = X.w) (hu : X.A.units + 64 < cLine) (hc : X.calm = true) (hN : X.N.Nodup) (hi : SI W X tg iter im) (ok : BlkOk X.N X.env.scope scope own)
    (hg : ∀ (s : Shared) (H : Hp) (C : Addr) (cl : List (Str × Addr)) (fp : List Addr), SGO (X.blk s H scope (compEnvC scope cl C X.env) fp) tg g (own.map fun p : Str × Nat => p.2))
    (ht : ∀ (s : Shared) (H : Hp) (C : Addr) (cl : List (Str × Addr)) (fp : List Addr), STs WF (X.blk s H scope (compEnvC scope cl C X.env) fp) ifs ft)
    (hk : ∀ (s : Shared) (H : Hp) (C : Addr) (cl : List (Str × Addr)) (fp : List Addr), SE WF (X.blk s H scope (compEnvC scope cl C X.env) fp) kx fk)
    (he : ∀ (s : Shared) (H : Hp) (C : Addr) (cl : List (Str × Addr)) (fp : List Addr), SE WF (X.blk s H scope (compEnvC scope cl C X.env) fp) vx fv) (hs : ∀ x, foldedSetIterable iter X.env x = pure x := by intro _; rfl) :
    SE W X (.DictComp kx vx [⟨tg, iter, ifs, 0⟩] scope pos) (mDn im g ft fk fv (own.map fun p : Str × Nat => p.2)) :=
  PE.imp (pe_dn (hu := by omega) (g := tGO X.K g (own.map fun p : Str × Nat => p.2)) (tt := tT X.K WF ft) (tk := tE X.K WF fk) (tv := tE X.K WF fv) hc hN hi ok hg ht hk he hs) fun sg H Q o => dn_step hw o
end
end TB
end

section
set_option Elab.async false
set_option linter.all false
set_option maxRecDepth 100000
set_option autoImplicit false
set_option maxHeartbeats 1000000
/-! TB38: for a, b in zip(xs, ys), of two lists or two tuples. -/
namespace TB
open PySem PySem.Spec PyProof.Rows L2
variable [LC] [LT]
/-- what zip walks: two lists, or two tuples -/
structure ZK (P : Program) (w : World) (K : PySem.W.Frag) (Sq : Hp → Addr → List V → Prop) (Is : Heap → Addr → Array Value → Prop) (It : Heap → Addr → Addr → Nat → Prop) : Prop where
  at_ : ∀ (X : Cx), X.K = K → ∀ (pins : List (Addr × Obj)) (σ : L2.St) (H : Hp) (s : Shared) (a : Addr) (xs : List V), Inv X pins σ H s → Sq H a xs → ∃ its : List Value, Vals xs its ∧ Is s.heap a its.toArray
  one : ∀ (X : Cx), X.K = K → ∀ (pins : List (Addr × Obj)) (σ : L2.St) (H : Hp) (s : Shared) (a : Addr) (xs ys : List V), Inv X pins σ H s → Sq H a xs → Sq H a ys → xs = ys
  lt : ∀ h a its, Is h a its → a < h.objs.size
  itob : ∀ h i a k, It h i a k → ∃ o, h.get? i = some o ∧ ∀ v, o.data ≠ .cell v
  itat : ∀ h h' i a k, It h i a k → (∀ o, h.get? i = some o → h'.get? i = some o) → It h' i a k
  item : ∀ (A : Around) (E : Value → Shared → Prop) (s : Shared) (z TI TO i1 i2 a b : Addr) (k : Nat) (xs ys : Array Value) (x y p q : Value) (Q : Option Value → Shared → Prop), ZipApart z TI TO i1 i2 a b → IsZip s.heap z TI TO .none → IsPair s.heap TI (.ref i1) (.ref i2) → IsPair s.heap TO p q →
    It s.heap i1 a k → It s.heap i2 b k → Is s.heap a xs → Is s.heap b ys → xs[k]? = some x → ys[k]? = some y →
    (∀ h', IsZip h' z TI TO (rawInt s.heap.objs.size) → IsPair h' TO x y → It h' i1 a (k + 1) → It h' i2 b (k + 1) → IsPair h' s.heap.objs.size x y → (∀ c o, c ≠ z → c ≠ TO → c ≠ i1 → c ≠ i2 → s.heap.get? c = some o → h'.get? c = some o) → Q (some (.ref s.heap.objs.size)) { s with heap := h' }) →
    wpAny (model P w) A (pyNext (.ref z)) Q E s
  fin : ∀ (A : Around) (E : Value → Shared → Prop) (s : Shared) (z TI TO i1 i2 a b : Addr) (k : Nat) (xs ys : Array Value) (p q : Value) (Q : Option Value → Shared → Prop), A.handled = none → ZipApart z TI TO i1 i2 a b → IsZip s.heap z TI TO .none → IsPair s.heap TI (.ref i1) (.ref i2) → IsPair s.heap TO p q →
    It s.heap i1 a k → It s.heap i2 b k → Is s.heap a xs → Is s.heap b ys → (xs[k]? = none ∨ ys[k]? = none) →
    (∀ h', (∀ c o, c ≠ z → c ≠ TO → c ≠ i1 → c ≠ i2 → s.heap.get? c = some o → h'.get? c = some o) → Q none { s with heap := h' }) → wpAny (model P w) A (pyNext (.ref z)) Q E s
  make : ∀ (A : Around) (E : Value → Shared → Prop) (s : Shared) (a b : Addr) (xs ys : Array Value) (Q : Value → Shared → Prop), Is s.heap a xs → Is s.heap b ys →
    (∀ h', IsZip h' (s.heap.objs.size + 4) (s.heap.objs.size + 2) (s.heap.objs.size + 3) .none → IsPair h' (s.heap.objs.size + 2) (.ref s.heap.objs.size) (.ref (s.heap.objs.size + 1)) → IsPair h' (s.heap.objs.size + 3) .none .none →
      It h' s.heap.objs.size a 0 → It h' (s.heap.objs.size + 1) b 0 → (∀ c o, s.heap.get? c = some o → h'.get? c = some o) → Q (.ref (s.heap.objs.size + 4)) { s with heap := h' }) → wpAny (model P w) A (call (.type "zip") [.ref a, .ref b]) Q E s
theorem zk_tup (P : Program) (w : World) (K : PySem.W.Frag) : ZK P w K (fun H a xs => SqT K H a xs) (fun h a its => h.IsTuple a its) (fun h i a k => h.IsTupleIter i a k) where
  at_ := fun X hK pins σ H s a xs I q => by subst hK; obtain ⟨its, rv, p, _⟩ := I.tuple q; exact ⟨its, rv, p⟩
  one := fun X hK pins σ H s a xs ys I q r => by subst hK; exact I.tuple_inj q r
  lt := fun h a its q => by obtain ⟨o, e, _⟩ := q; exact Heap.lt_size e
  itob := fun h i a k q => by obtain ⟨o, e, _, d⟩ := q; exact ⟨o, e, fun v z => by rw [d] at z; cases z⟩
  itat := fun h h' i a k q e => q.at e
  item := fun A E s z TI TO i1 i2 a b k xs ys x y p q Q D hz hTI hTO h1 h2 l1 l2 ex ey hQ => RZ.pyNext_zipT_item D hz hTI hTO h1 h2 l1 l2 ex ey fun h' a1 a2 a3 a4 a5 _ a7 => hQ h' a1 a2 a3 a4 a5 a7
  fin := fun A E s z TI TO i1 i2 a b k xs ys p q Q hh D hz hTI hTO h1 h2 l1 l2 he hQ => RZ.pyNext_zipT_end hh D hz hTI hTO h1 h2 l1 l2 he hQ
  make := fun A E s a b xs ys Q l1 l2 h => RZ.call_zipT l1 l2 fun h' a1 a2 a3 a4 a5 _ a7 => h h' a1 a2 a3 a4 a5 a7
theorem zk_list (P : Program) (w : World) (K : PySem.W.Frag) : ZK P w K (fun H a xs => SqL K H a xs) (fun h a its => h.IsList a its) (fun h i a k => h.IsListIter i a k) where
  at_ := fun X hK pins σ H s a xs I q => by subst hK; obtain ⟨its, rv, p, _⟩ := I.list q; exact ⟨its, rv, p.isList⟩
  one := fun X hK pins σ H s a xs ys I q r => by subst hK; exact I.list_inj q r
  lt := fun h a its q => by obtain ⟨o, e, _⟩ := q; exact Heap.lt_size e
  itob := fun h i a k q => by obtain ⟨o, e, _, d⟩ := q; exact ⟨o, e, fun v z => by rw [d] at z; cases z⟩
  itat := fun h h' i a k q e => q.at e
  item := fun A E s z TI TO i1 i2 a b k xs ys x y p q Q D hz hTI hTO h1 h2 l1 l2 ex ey hQ => wpAny_pyNext_zip_item D hz hTI hTO h1 h2 l1 l2 ex ey fun h' a1 a2 a3 a4 a5 _ a7 => hQ h' a1 a2 a3 a4 a5 a7
  fin := fun A E s z TI TO i1 i2 a b k xs ys p q Q hh D hz hTI hTO h1 h2 l1 l2 he hQ => wpAny_pyNext_zip_end hh D hz hTI hTO h1 h2 l1 l2 he hQ
  make := fun A E s a b xs ys Q l1 l2 h => call_zip_2 l1 l2 fun h' a1 a2 a3 a4 a5 _ a7 => h h' a1 a2 a3 a4 a5 a7
/-- the pairs, as known tuples -/
def ItzF (Sq : Hp → Addr → List V → Prop) (a b : Addr) : It :=
  ⟨fun i H => ∃ (xs ys : List V) (x y : V), Sq H a xs ∧ Sq H b ys ∧ xs[i]? = some x ∧ ys[i]? = some y,
    fun i H v H' => ∃ T o x y, v = .ref T ∧ H T = none ∧ o.dict = none ∧ H' = upd H T (.frz o (.tup [x, y])) ∧ (∀ xs, Sq H a xs → xs[i]? = some x) ∧ ∀ ys, Sq H b ys → ys[i]? = some y,
    fun i H => ∃ xs ys : List V, Sq H a xs ∧ Sq H b ys ∧ (xs.length ≤ i ∨ ys.length ≤ i)⟩
theorem mem5 {c z TI TO i1 i2 : Addr} (h : c ∈ [z, TI, TO, i1, i2]) : c = z ∨ c = TI ∨ c = TO ∨ c = i1 ∨ c = i2 := by simpa using h
theorem turn_zipF {P : Program} {w : World} {K : PySem.W.Frag} {elts : List Expr} {kk : Nat} {tpos : Pos} {a b z TI TO i1 i2 : Addr} {Sq : Hp → Addr → List V → Prop} {Is : Heap → Addr → Array Value → Prop} {It : Heap → Addr → Addr → Nat → Prop} (S : ZK P w K Sq Is It) (D : ZipApart z TI TO i1 i2 a b) :
    Turn P w K (.Tuple elts kk tpos) (ItzF Sq a b) [z, TI, TO, i1, i2] z (fun i h => IsZip h z TI TO .none ∧ IsPair h TI (.ref i1) (.ref i2) ∧ (∃ x y, IsPair h TO x y) ∧ It h i1 a i ∧ It h i2 b i) where
  mem := by simp
  obj := fun i h st c hc => by
    obtain ⟨hz, hTI, ⟨x, y, hTO⟩, j1, j2⟩ := st
    rcases mem5 hc with rfl | rfl | rfl | rfl | rfl
    · exact ⟨_, hz, fun v q => nomatch q⟩
    · exact ⟨_, hTI, fun v q => nomatch q⟩
    · exact ⟨_, hTO, fun v q => nomatch q⟩
    · exact S.itob _ _ _ _ j1
    · exact S.itob _ _ _ _ j2
  keep := fun i h h' st k => by
    obtain ⟨hz, hTI, ⟨x, y, hTO⟩, j1, j2⟩ := st
    exact ⟨k z (by simp) _ hz, k TI (by simp) _ hTI, ⟨x, y, k TO (by simp) _ hTO⟩, S.itat _ _ _ _ _ j1 fun o q => k i1 (by simp) o q, S.itat _ _ _ _ _ j2 fun o q => k i2 (by simp) o q⟩
  item := by
    intro X hP hw hK hc i pins s σ H E I hf st hg
    subst hP hw
    obtain ⟨hz, hTI, ⟨p0, q0, hTO⟩, j1, j2⟩ := st
    obtain ⟨xs, ys, x, y, qx, qy, hx, hy⟩ := hg
    obtain ⟨us, rv, l1⟩ := S.at_ X hK pins σ H s a xs I qx
    obtain ⟨ws, rw, l2⟩ := S.at_ X hK pins σ H s b ys I qy
    obtain ⟨u, hu, ru⟩ := rv.get hx
    obtain ⟨t, ht, rt⟩ := rw.get hy
    have szz : z < s.heap.objs.size := Heap.lt_size hz
    have small : ∀ c, c ∈ [z, TI, TO, i1, i2] → c < s.heap.objs.size := fun c hcm => by
      rcases mem5 hcm with rfl | rfl | rfl | rfl | rfl
      · exact szz
      · exact Heap.lt_size hTI
      · exact Heap.lt_size hTO
      · obtain ⟨_, e, _⟩ := S.itob _ _ _ _ j1; exact Heap.lt_size e
      · obtain ⟨_, e, _⟩ := S.itob _ _ _ _ j2; exact Heap.lt_size e
    refine S.item X.A _ s z TI TO i1 i2 a b i _ _ u t p0 q0 _ D hz hTI hTO j1 j2 l1 l2 (by simpa using hu) (by simpa using ht) fun h' z' TO' j1' j2' hT hk => ?_
    refine ⟨_, rfl, wpAny_letOwnedTupleGo_zip (s := { s with heap := h' }) z' fun h'' z'' sb => ?_⟩
    have hT2 : h''.get? s.heap.objs.size = some { cls := .type "tuple", data := .seq #[u, t] } := (sb.2 _ (Nat.ne_of_gt szz)).trans hT
    have new : ObjOk X.prog X.w (upd H s.heap.objs.size (.frz { cls := .type "tuple", data := .seq #[u, t] } (.tup [x, y]))) h'' s.heap.objs.size (.frz { cls := .type "tuple", data := .seq #[u, t] } (.tup [x, y])) :=
      ⟨hT2, ⟨by show 2 ≤ sizeLine; decide, [u, t], .cons ru (.cons rt .nil), ⟨_, hT2, rfl, _, rfl⟩⟩⟩
    have I1 : Inv X pins σ (upd H s.heap.objs.size (.frz { cls := .type "tuple", data := .seq #[u, t] } (.tup [x, y]))) { s with heap := h'' } :=
      I.turnedNew (t' := s.toks) (ch := [z, TI, TO, i1, i2]) (fun c o hb q => (sb.2 c (fun e => hb (by simp [e]))).trans (hk c o (fun e => hb (by simp [e])) (fun e => hb (by simp [e])) (fun e => hb (by simp [e])) (fun e => hb (by simp [e])) q)) hf (Nat.le_refl _) new
    refine ⟨.ref s.heap.objs.size, _, I1, rfl, ⟨_, _, x, y, rfl, I.hok.fresh (Nat.le_refl _), rfl, rfl, fun l hl => by rw [S.one X hK pins σ H s a _ _ I hl qx]; exact hx, fun l hl => by rw [S.one X hK pins σ H s b _ _ I hl qy]; exact hy⟩, ⟨z'', ?_, ⟨u, t, ?_⟩, ?_, ?_⟩, fun c hcm => ?_⟩
    · exact (sb.2 _ D.TIz).trans (hk _ _ D.TIz D.TITO D.TIi1 D.TIi2 hTI)
    · exact (sb.2 _ D.TOz).trans TO'
    · exact S.itat _ _ _ _ _ j1' fun o q => (sb.2 _ D.i1z).trans q
    · exact S.itat _ _ _ _ _ j2' fun o q => (sb.2 _ D.i2z).trans q
    · rw [upd_ne (Nat.ne_of_lt (small c hcm))]
      exact (hf c hcm).1
  done := by
    intro X hP hw hK hc i pins s σ H E I hf st hg
    subst hP hw
    obtain ⟨hz, hTI, ⟨p0, q0, hTO⟩, j1, j2⟩ := st
    obtain ⟨xs, ys, qx, qy, stop⟩ := hg
    obtain ⟨us, rv, l1⟩ := S.at_ X hK pins σ H s a xs I qx
    obtain ⟨ws, rw, l2⟩ := S.at_ X hK pins σ H s b ys I qy
    have n1 := rv.length
    have n2 := rw.length
    refine S.fin X.A _ s z TI TO i1 i2 a b i _ _ p0 q0 _ (I.ok.hd hc) D hz hTI hTO j1 j2 l1 l2 ?_ fun h' hk => ⟨rfl, I.turnedL (t' := s.toks) (ch := [z, TI, TO, i1, i2]) (fun c o hb q =>
      hk c o (fun e => hb (by simp [e])) (fun e => hb (by simp [e])) (fun e => hb (by simp [e])) (fun e => hb (by simp [e])) q) hf⟩
    rcases stop with q | q
    · exact .inl (by simp; omega)
    · exact .inr (by simp; omega)
  self := fun A i s Q E st h => wpAny_pyIter_zip st.1 h
def iZipF (K : PySem.W.Frag) (ta : TA) : TI := fun σ H R => ta σ H fun vs H1 => ∃ a b xs ys, vs = [.ref a, .ref b] ∧ ((SqL K H1 a xs ∧ SqL K H1 b ys ∧ R (ItzF (fun H a xs => SqL K H a xs) a b) H1) ∨ (SqT K H1 a xs ∧ SqT K H1 b ys ∧ R (ItzF (fun H a xs => SqT K H a xs) a b) H1))
theorem pi_zipF {X : Cx} {e e2 : Expr} {ta : TA} {p pos tpos : Pos} {elts : List Expr} {kk : Nat} (hg : Gl X "zip") (hm : X.mg "zip" = none) (ha : PA X [e, e2] ta)
    (hs : starEach [e, e2] X.env = (false, eval e X.env) :: starEach [e2] X.env := by rfl) (hpl : (backTo pos (starEach [e2] X.env)).any (·.1) = false := by rfl) :
    PI X (.Tuple elts kk tpos) (.Call (.Name "zip" p) [e, e2] [] pos) (iZipF X.K ta) := by
  refine ⟨fun pins s σ H R I h => ?_⟩
  refine Call_ (ld_blt I hg hm PyProof.Rows.boot_zip (PyProof.Rows.callWith_type1 (thn (ha.run pos pins s σ H _ I h) fun us s1 h1 => ?_) hs hpl))
  obtain ⟨vs, H1, I1, r1, a, b, xs, ys, rfl, q1⟩ := h1
  obtain ⟨u1, u2, rfl, e1, e2⟩ := vals2 r1
  cases e1
  cases e2
  have go : ∀ {Sq : Hp → Addr → List V → Prop} {Is : Heap → Addr → Array Value → Prop} {It : Heap → Addr → Addr → Nat → Prop} (S : ZK X.prog X.w X.K Sq Is It), Sq H1 a xs → Sq H1 b ys → R (ItzF Sq a b) H1 →
      wpAny (model X.prog X.w) X.A (call (.type "zip") [.ref a, .ref b]) (fun v s2 => wpAny (model X.prog X.w) X.A (pyIter v) (PIE X pins σ (.Tuple elts kk tpos) R) X.xe s2) X.xe s1 := by
    intro Sq Is It S qx qy q
    obtain ⟨us, _, l1⟩ := S.at_ X rfl pins σ H1 s1 a xs I1 qx
    obtain ⟨ws, _, l2⟩ := S.at_ X rfl pins σ H1 s1 b ys I1 qy
    refine S.make X.A _ s1 a b _ _ _ l1 l2 fun h' hz hTI hTO j1 j2 hk => wpAny_pyIter_zip hz ?_
    refine ⟨s1.heap.objs.size + 4, [s1.heap.objs.size + 4, s1.heap.objs.size + 2, s1.heap.objs.size + 3, s1.heap.objs.size, s1.heap.objs.size + 1], _, _, H1, rfl, I1.kept (t' := s1.toks) hk, turn_zipF S (PySem.W.ktu_apart s1.heap.objs.size a b (S.lt _ _ _ l1) (S.lt _ _ _ l2)), ⟨hz, hTI, ⟨_, _, hTO⟩, j1, j2⟩, fun c hc => ?_, q⟩
    have hle : s1.heap.objs.size ≤ c := by
      rcases mem5 hc with rfl | rfl | rfl | rfl | rfl
      · exact Nat.le_add_right _ _
      · exact Nat.le_add_right _ _
      · exact Nat.le_add_right _ _
      · exact Nat.le_refl _
      · exact Nat.le_add_right _ _
    exact I1.fpOk hle (I1.hok.fresh hle)
  rcases q1 with ⟨qx, qy, q⟩ | ⟨qx, qy, q⟩
  · exact go (zk_list X.prog X.w X.K) qx qy q
  · exact go (zk_tup X.prog X.w X.K) qx qy q
end TB
end

section
set_option Elab.async false
set_option linter.all false
set_option maxRecDepth 100000
set_option autoImplicit false
set_option maxHeartbeats 1000000
/-! TB39: zip over pure values. -/
namespace TB
open PySem PySem.Spec PyProof.Rows L2
variable [LC] [LT]
def zipD : List D → List D → List D
  | x :: xs, y :: ys => .tup [x, y] :: zipD xs ys
  | _, _ => []
theorem zipD_len : ∀ (xs ys : List D), (zipD xs ys).length = min xs.length ys.length
  | [], ys => by simp [zipD]
  | x :: xs, [] => by simp [zipD]
  | x :: xs, y :: ys => by simp [zipD, zipD_len xs ys]
theorem zipD_get : ∀ (xs ys : List D) (j : Nat) (d e : D), xs[j]? = some d → ys[j]? = some e → (zipD xs ys)[j]? = some (.tup [d, e])
  | [], _, _, _, _, h, _ => by simp at h
  | _ :: _, [], _, _, _, _, h => by simp at h
  | x :: xs, y :: ys, 0, d, e, h1, h2 => by simp at h1 h2; subst h1 h2; rfl
  | x :: xs, y :: ys, j + 1, d, e, h1, h2 => by simpa [zipD] using zipD_get xs ys j d e (by simpa using h1) (by simpa using h2)
/-- a list, and where it stands if it may change -/
def lstAt (h : Hh) : D → Option (List D × Lk)
  | .lst ys => some (ys, none)
  | .ref n => match h[n]? with
    | some (.lst ys) => some (ys, some (n, .lst ys))
    | _ => none
  | _ => none
def zipOp (vs : List D) (h : Hh) : Res (List D × Lk) := match vs with
  | [.tup xs, .tup ys] => .ok (zipD xs ys, none) h
  | [x, y] => match lstAt h x, lstAt h y with
    | some (xs, none), some (ys, l) => .ok (zipD xs ys, l) h
    | some (xs, l), some (ys, none) => .ok (zipD xs ys, l) h
    | _, _ => .bad
  | _ => .bad
def mZip (fr : AM) : IM := fun s h => (fr s h).bind zipOp
section
variable {K : PySem.W.Frag} {mu0 : List Addr} {Z0 : Hp}
theorem walked_zip {lk : Lk} {Sq : Hp → Addr → List V → Prop} {a b : Addr} {xs ys : List D} (ln : xs.length ≤ sizeLine)
    (hx : ∀ mu Z H h, SR K mu Z H h → (∃ nu, mu = mu0 ++ nu) → Sub Z0 Z → lockOk lk h → ∃ vs, Sq H a vs ∧ Reps K mu Z xs vs)
    (hy : ∀ mu Z H h, SR K mu Z H h → (∃ nu, mu = mu0 ++ nu) → Sub Z0 Z → lockOk lk h → ∃ vs, Sq H b vs ∧ Reps K mu Z ys vs) : Walked K mu0 Z0 lk (ItzF Sq a b) (zipD xs ys) where
  len := by rw [zipD_len]; omega
  go := fun mu Z H h i sr hm hs hl hi => by
    rw [zipD_len] at hi
    obtain ⟨vs, q, r⟩ := hx mu Z H h sr hm hs hl
    obtain ⟨ws, q2, r2⟩ := hy mu Z H h sr hm hs hl
    have l1 := r.length
    have l2 := r2.length
    exact ⟨vs, ws, vs[i]'(by omega), ws[i]'(by omega), q, q2, by simp, by simp⟩
  yl := fun mu Z H h i x H' sr hm hs hl hi y => by
    obtain ⟨vs, q, r⟩ := hx mu Z H h sr hm hs hl
    obtain ⟨ws, q', r'⟩ := hy mu Z H h sr hm hs hl
    obtain ⟨T, o, x', y', rfl, hT, hd, rfl, h1, h2⟩ := y
    obtain ⟨d, e1, r1⟩ := r.get' (h1 vs q)
    obtain ⟨e, e2, r2⟩ := r'.get' (h2 ws q')
    obtain ⟨q1, q2⟩ := sr.addZ hT (.frz o (.tup [x', y']))
    exact ⟨_, q1, q2, .tup [d, e], zipD_get xs ys i d e e1 e2, .tup (.inl ⟨o, upd_same, hd⟩) (.cons (q2.rep r1) (.cons (q2.rep r2) .nil)) (by show 2 ≤ sizeLine; decide)⟩
  st := fun mu Z H h sr hm hs hl => by
    obtain ⟨vs, q, r⟩ := hx mu Z H h sr hm hs hl
    obtain ⟨ws, q2, r2⟩ := hy mu Z H h sr hm hs hl
    have l1 := r.length
    have l2 := r2.length
    refine ⟨vs, ws, q, q2, ?_⟩
    rw [zipD_len]
    omega
theorem lstAt_rep {mu : List Addr} {Z H : Hp} {h : Hh} {x : D} {v : V} {xs : List D} {l : Lk} (sr : SR K mu Z H h) (r : Rep K mu Z x v) (e : lstAt h x = some (xs, l)) :
    ∃ a vs, v = .ref a ∧ xs.length ≤ sizeLine ∧ SqL K H a vs ∧ ∀ mu' Z' H' h', SR K mu' Z' H' h' → (∃ nu, mu' = mu ++ nu) → Sub Z Z' → lockOk l h' → ∃ vs, SqL K H' a vs ∧ Reps K mu' Z' xs vs := by
  unfold lstAt at e
  split at e
  · cases e
    cases r with
    | lst q rp ln => exact ⟨_, _, rfl, ln, SqL.of (sr.zin _ _ q), fun mu' Z' H' h' sr' hm' hs' _ => ⟨_, SqL.of (sr'.zin _ _ (hs' _ _ q)), rp.mono (pre_get hm') hs'⟩⟩
  · split at e
    · rename_i n _ ys en
      cases e
      obtain ⟨ad, rfl, hm0, ln, vs, e2, r2⟩ := sr.cellAt en r
      refine ⟨ad, vs, rfl, ln, SqL.of e2, fun mu' Z' H' h' sr' hm' hs' lk => ?_⟩
      obtain ⟨_, vs', e', r'⟩ := sr'.cell n _ ad lk (pre_get hm' _ _ hm0)
      exact ⟨vs', SqL.of e', r'⟩
    · cases e
  · cases e
end
theorem si_zip {W : WXx} {X : Cx} {e e2 : Expr} {fr : AM} {p pos tpos : Pos} {elts : List Expr} {kk : Nat} (hg : Gl X "zip") (hm : X.mg "zip" = none) (ha : SA W X [e, e2] fr)
    (hs : starEach [e, e2] X.env = (false, eval e X.env) :: starEach [e2] X.env := by rfl) (hpl : (backTo pos (starEach [e2] X.env)).any (·.1) = false := by rfl) :
    SI W X (.Tuple elts kk tpos) (.Call (.Name "zip" p) [e, e2] [] pos) (mZip fr) :=
  PI.imp (pi_zipF hg hm ha hs hpl) fun sg H R o => by
    refine tAs.mono (seqAsR o) fun us H1 ⟨xs, q⟩ => ?_
    obtain ⟨mu, Z, h, s, sr, sl, rp, o⟩ := q
    unfold zipOp at o
    split at o
    · cases rp with
      | cons r rp =>
        cases rp with
        | cons r' rp =>
          cases rp
          cases r with
          | tup q rq ln =>
            cases r' with
            | tup q' rq' ln' =>
              exact ⟨_, _, _, _, rfl, .inr ⟨(sr.zin.tupZ q).sq, (sr.zin.tupZ q').sq, o mu Z H1 sr (Stp.refl _ _ _) _ (walked_zip ln (fun mu' Z' H' h' sr' hm' hs' _ => ⟨_, (sr'.zin.tupZ (hs'.tupZ q)).sq, rq.mono (pre_get hm') hs'⟩) fun mu' Z' H' h' sr' hm' hs' _ => ⟨_, (sr'.zin.tupZ (hs'.tupZ q')).sq, rq'.mono (pre_get hm') hs'⟩)⟩⟩
    · cases rp with
      | cons r rp =>
        cases rp with
        | cons r' rp =>
          cases rp
          dsimp only at o
          split at o
          · rename_i xs ys l e1 e2
            obtain ⟨a, vs, rfl, ln, q1, w1⟩ := lstAt_rep sr r e1
            obtain ⟨b, ws, rfl, ln2, q2, w2⟩ := lstAt_rep sr r' e2
            exact ⟨a, b, vs, ws, rfl, .inl ⟨q1, q2, o mu Z H1 sr (Stp.refl _ _ _) _ (walked_zip ln (fun mu' Z' H' h' sr' hm' hs' _ => w1 mu' Z' H' h' sr' hm' hs' trivial) w2)⟩⟩
          · rename_i xs l ys _ e1 e2
            obtain ⟨a, vs, rfl, ln, q1, w1⟩ := lstAt_rep sr r e1
            obtain ⟨b, ws, rfl, ln2, q2, w2⟩ := lstAt_rep sr r' e2
            exact ⟨a, b, vs, ws, rfl, .inl ⟨q1, q2, o mu Z H1 sr (Stp.refl _ _ _) _ (walked_zip ln w1 fun mu' Z' H' h' sr' hm' hs' _ => w2 mu' Z' H' h' sr' hm' hs' trivial)⟩⟩
          · exact o.elim
    · exact o.elim
end TB
end

section
set_option Elab.async false
set_option linter.all false
set_option maxRecDepth 100000
set_option autoImplicit false
set_option maxHeartbeats 1000000
/-! TB40: ord, upper, text * int; defs handed over as values. -/
namespace TB
open PySem PySem.Spec PyProof.Rows L2
variable [LC] [LT]
section
variable {K : PySem.W.Frag}
def ordOp (xs : List D) (h : Hh) : Res D := match xs with
  | [.str x] => if x.length = 1 then .ok (.int (x.cps.getD 0 0 : Nat)) h else .bad
  | _ => .bad
theorem opA_ord : OpA K (fun xs H Q => ∃ x, xs = [.str x] ∧ x.length = 1 ∧ Q (.int (x.cps.getD 0 0 : Nat)) H) ordOp := by
  intro W xs us sg H Q o
  replace o := o.one
  obtain ⟨mu, Z, h, sr, rp, o⟩ := o
  unfold ordOp at o
  split at o
  · rename_i x
    cases rp with
    | cons r rp =>
      cases rp
      cases r
      split at o
      · rename_i e
        exact ⟨x, rfl, e, Out.val sr rfl (.int _) o⟩
      · exact o.elim
  · exact o.elim
def upOp (x : D) (xs : List D) (h : Hh) : Res D := match x, xs with
  | .str a, [] => if (decide (a.length ≤ 1000) && (PyData.strOk (Txt.upper a) && decide ((Txt.upper a).length ≤ sizeLine))) = true then .ok (.str (Txt.upper a)) h else .bad
  | _, _ => .bad
theorem opM_up : OpM K (fun x xs H Q => ∃ a, x = .str a ∧ xs = [] ∧ a.length ≤ 5592405 ∧ Q (.str (Txt.upper a)) H) upOp := by
  intro W x u xs us sg H Q o
  replace o := o.met
  obtain ⟨mu, Z, h, sr, rx, rp, o⟩ := o
  unfold upOp at o
  split at o
  · split at o
    · rename_i e
      simp only [Bool.and_eq_true, decide_eq_true_eq] at e
      cases rp
      cases rx
      exact ⟨_, rfl, rfl, by omega, Out.val sr rfl (.str ⟨e.2.1, e.2.2⟩) o⟩
    · exact o.elim
  · exact o.elim
def mulAOp (x y : D) (h : Hh) : Res D := match x, y with
  | .str z, .int n => if (decide (0 ≤ n ∧ n ≤ 1000) && (decide (z.length ≤ 1000) && (PyData.strOk (Txt.mul z n) && decide ((Txt.mul z n).length ≤ sizeLine)))) = true then .ok (.str (Txt.mul z n)) h else .bad
  | x, y => mulOp x y h
def rMulS : R2 := fun x y H Q => ∃ z n, x = .str z ∧ y = .int n ∧ MulOk z n ∧ Q (.str (Txt.mul z n)) H
theorem mul_ok {z : Str} {n : Int} (h0 : 0 ≤ n) (h1 : n ≤ 1000) (hz : z.length ≤ 1000) : MulOk z n := by
  refine ⟨?_, fun a _ => ?_, fun _ _ => ?_⟩
  · simp; omega
  · have hn : 1 ≤ n := by omega
    have : (2 ^ 63 - 1) / n ≥ (2 ^ 63 - 1) / 1000 := by
      refine Int.le_ediv_of_mul_le (by omega) ?_
      have : (2 ^ 63 - 1) / 1000 * n ≤ (2 ^ 63 - 1) / 1000 * 1000 := Int.mul_le_mul_of_nonneg_left h1 (by decide)
      have e : ((2 : Int) ^ 63 - 1) / 1000 * 1000 ≤ 2 ^ 63 - 1 := by decide
      omega
    have e2 : ((2 : Int) ^ 63 - 1) / 1000 = 9223372036854775 := by decide
    rw [e2] at this
    omega
  · unfold Builtin.Str.tooLong
    have : z.length * n.toNat ≤ 1000 * 1000 := Nat.mul_le_mul hz (by omega)
    have := sizeLine_eq
    simp
    omega
theorem op2_mulA : Op2 K (fun x y H Q => rMulS x y H Q ∨ rI CMul (fun i j => .int (i * j)) x y H Q) mulAOp := by
  intro W x y u v sg H Q o
  by_cases hs : ∃ z n, x = .str z ∧ y = .int n
  · obtain ⟨z, n, rfl, rfl⟩ := hs
    replace o := o.open2
    obtain ⟨mu, Z, h, s, sr, sl, rx, ry, o⟩ := o
    unfold mulAOp at o
    dsimp only at o
    split at o
    · rename_i e
      simp only [Bool.and_eq_true, decide_eq_true_eq] at e
      cases rx
      cases ry
      exact .inl ⟨z, n, rfl, rfl, mul_ok e.1.1 e.1.2 e.2.1, Out.val sr rfl (.str ⟨e.2.2.1, e.2.2.2⟩) o⟩
    · exact o.elim
  · refine .inr (op2_intc (K := K) cMul_ok W x y u v sg H Q ?_)
    have e : mulAOp x y = mulOp x y := by
      funext h
      unfold mulAOp
      split
      · exact absurd ⟨_, _, rfl, rfl⟩ hs
      · rfl
    rw [e] at o
    exact o
end
section
variable {W : WXx} {X : Cx} {a b o e : Expr} {fa fb fo : EM} {fr : AM} {p pos apos cpos : Pos}
theorem op_mulA : OpR X (binaryOp .Mult) (fun x y H Q => rMulS x y H Q ∨ rI CMul (fun i j => .int (i * j)) x y H Q) := by
  intro pins s σ H x y v u Q I rx ry h
  rcases h with ⟨z, n, rfl, rfl, hok, q⟩ | h
  · obtain ⟨t, rfl⟩ := rx
    obtain ⟨t2, rfl⟩ := ry
    exact SB.mul hok fun t' k => ⟨.str _, H, I.tok k, ⟨t', rfl⟩, q⟩
  · exact op_mul pins s σ H x y v u Q I rx ry h
theorem se_mulA (ha : SE W X a fa) (hb : SE W X b fb) : SE W X (.BinOp a .Mult b pos) (m2 mulAOp fa fb) := se_bin op_mulA op2_mulA ha hb
theorem se_ord (hg : Gl X "ord") (hm : X.mg "ord" = none) (ha : SA W X [a] fr) (he : starEach [a] X.env = (false, eval a X.env) :: starEach [] X.env := by rfl) (hpl : (backTo pos (starEach [] X.env)).any (·.1) = false := by rfl) : SE W X (.Call (.Name "ord" p) [a] [] pos) (mApp ordOp fr) :=
  se_callB call_ord opA_ord hg hm rfl ha (by decide) (by decide) he hpl
theorem se_upper (ho : SE W X o fo) (hbase : attributeBase o "upper" X.env (eval o X.env) = eval o X.env := by rfl) (hline : (apos.endLine == cpos.line) = true := by rfl) : SE W X (.Call (.Attribute o "upper" apos) [] [] cpos) (mMet .str upOp fo mNil) :=
  se_met0 (T := .str) (.inr (.inr (.inr rfl))) PySem.F.plainAttrs_str PySem.F.slot_str_upper PySem.F.type_str_upper mt_upper opM_up ho hbase hline
/-! ### a def as a value -/
theorem se_fn {x : Str} (hg : Gl X x) (h : X.mg x = some (.ref (LC.C x))) (hd : (x == ("__debug__" : Str)) = false := by decide) : SE W X (.Name x pos) (mC (.fn x)) := PE.imp (pe_glob (v := .ref (LC.C x)) hg h rfl hd) fun sg H Q o => by
  obtain ⟨mu, Z, h, s, sr, sl, _, o⟩ := o
  exact o mu Z H sr (Stp.refl _ _ _) _ (.fn x)
/-- a call of what the name at i holds: one of two defs -/
def mCallV (x1 x2 : Str) (F1 F2 : FM) (i : Nat) (ms : AM) : EM := fun s h => match s[i]? with
  | some (some (.fn x)) => if x = x1 then (ms s h).bind fun ds h1 => callOp F1 ds h1 else if x = x2 then (ms s h).bind fun ds h1 => callOp F2 ds h1 else .bad
  | _ => .bad
theorem Cb.at_ {P : Program} {w : World} {K : PySem.W.Frag} {mg : Str → Option Value} {base : Heap} {k n : Nat} {x : Str} {F : FM} (c : Cb P w K mg base k x n F) (h : mg x = some (.ref (LC.C x))) : C8.CalAt P w K mg base k (LC.C x) (spF K n F) := by
  obtain ⟨f, fd, ps, c1, c2, c3, c4⟩ := c.ex
  rw [h] at c2
  cases c2
  exact ⟨fd, ps, c1, c3, c4⟩
theorem se_callV {i j k1 k2 n : Nat} {x x1 x2 : Str} {F1 F2 : FM} {es : List Expr} {ms : AM} (c1 : Cb X.prog X.w X.K X.mg X.base k1 x1 n F1) (c2 : Cb X.prog X.w X.K X.mg X.base k2 x2 n F2) (h1 : X.mg x1 = some (.ref (LC.C x1))) (h2 : X.mg x2 = some (.ref (LC.C x2)))
    (hr : Room j X.A) (hk1 : k1 ≤ j) (hk2 : k2 ≤ j) (hN : X.N[i]? = some x) (ha : SA W X (e :: es) ms) (hn : (e :: es).length = n)
    (hm : ∀ s h ds h1, ms s h = .ok ds h1 → ds.length = n)
    (hv : Vis X.env.scope x := by first | exact Or.inl rfl | exact Or.inr (Or.inl rfl) | exact Or.inr (Or.inr rfl)) (hd : (x == ("__debug__" : Str)) = false := by decide) (hcd : (x == ("__classdict__" : Str)) = false := by decide)
    (he : starEach (e :: es) X.env = (false, eval e X.env) :: starEach es X.env := by rfl) (hpl : (backTo pos (starEach es X.env)).any (·.1) = false := by rfl) : SE W X (.Call (.Name x p) (e :: es) [] pos) (mCallV x1 x2 F1 F2 i ms) := by
  refine PE.imp (C8.pe_cv (c1.at_ h1) (c2.at_ h2) hr hk1 hk2 hN hv ha hd hcd he hpl) fun sg H Q o => ?_
  obtain ⟨mu, Z, h, s, sr, sl, _, o⟩ := o
  have key : ∀ {F : FM}, Out X.K mu Z H ((ms s h).bind fun ds h1 => callOp F ds h1) (fun c d H' => W c d sg H') (fun v mu' Z' H' _ => ∀ u, Rep X.K mu' Z' v u → Q u H') → tAs X.K W ms sg H fun vs H1 => spF X.K n F vs H1 Q fun _ _ _ => False := fun {F} o => by
    refine ⟨mu, Z, h, s, sr, sl, ?_⟩
    cases em : ms s h with
    | ok ds h1 =>
      simp only [em, Res.bind_ok] at o
      intro mu1 Z1 H1 sr1 p1 us ru
      exact call_ok sr1 ru (by rw [← ru.length]; exact hm s h ds h1 em) (Out.mono p1 o fun _ _ _ _ _ _ q => q)
    | ex x h1 =>
      simp only [em, Res.bind_ex] at o
      exact o
    | bad =>
      simp only [em, Res.bind_bad] at o
      exact o.elim
  unfold mCallV at o
  split at o
  · rename_i y hy
    obtain ⟨v, e1, r1⟩ := sl.at_ i _ hy
    cases r1
    split at o
    · rename_i q
      subst q
      exact .inl ⟨e1, key o⟩
    · split at o
      · rename_i q
        subst q
        exact .inr ⟨e1, key o⟩
      · exact o.elim
  · exact o.elim
end
end TB
end

section
set_option Elab.async false
set_option linter.all false
set_option maxRecDepth 100000
set_option autoImplicit false
set_option maxHeartbeats 1000000
/-! TB41: dict(x) of a dict or of pairs, d.update(e). -/
namespace TB
open PySem PySem.Spec PyProof.Rows L2
variable [LC] [LT]
def pairsD : List D → Option (List (Key × D))
  | [] => some []
  | .tup [x, y] :: r => match keyOf x, pairsD r with
    | some k, some ks => some ((k, y) :: ks)
    | _, _ => none
  | _ => none
def mergeD (ks more : List (Key × D)) : List (Key × D) := more.foldl (fun acc kv => putD acc kv.1 kv.2) ks
theorem mergeD_len : ∀ (more ks : List (Key × D)), (mergeD ks more).length ≤ ks.length + more.length
  | [], ks => by simp [mergeD]
  | p :: r, ks => by
    have h1 := mergeD_len r (putD ks p.1 p.2)
    have h2 := putD_len (k := p.1) (d := p.2) ks
    show (mergeD (putD ks p.1 p.2) r).length ≤ _
    rw [List.length_cons]; omega
section
variable {K : PySem.W.Frag} {mu : List Addr} {Z : Hp}
theorem merge_rep : ∀ {more : List (Key × D)} {ws : List (Key × V)} {ks : List (Key × D)} {kvs : List (Key × V)}, more.map (·.1) = ws.map (·.1) → Reps K mu Z (more.map (·.2)) (ws.map (·.2)) → (∀ k, k ∈ more.map (·.1) → KOk k) →
    ks.map (·.1) = kvs.map (·.1) → Reps K mu Z (ks.map (·.2)) (kvs.map (·.2)) → (∀ k, k ∈ ks.map (·.1) → KOk k) →
    (mergeD ks more).map (·.1) = (mergeK kvs ws).map (·.1) ∧ Reps K mu Z ((mergeD ks more).map (·.2)) ((mergeK kvs ws).map (·.2)) ∧ ∀ k, k ∈ (mergeD ks more).map (·.1) → KOk k
  | [], [], ks, kvs, _, _, _, e, r, o => ⟨e, r, o⟩
  | [], _ :: _, ks, kvs, e1, _, _, e, r, o => by simp at e1
  | _ :: _, [], ks, kvs, e1, _, _, e, r, o => by simp at e1
  | (k, d) :: more, (k2, v) :: ws, ks, kvs, e1, r1, o1, e, r, o => by
    simp only [List.map_cons, List.cons.injEq] at e1
    obtain ⟨rfl, e1⟩ := e1
    cases r1 with
    | cons rd r1 =>
      exact merge_rep (ks := putD ks k d) (kvs := putK kvs k v) e1 r1 (fun j hj => o1 j (List.mem_cons_of_mem _ hj)) (put_keys e) (put_reps rd e r) (putD_ok o (o1 k List.mem_cons_self))
/-- pairs as they lie -/
theorem pairs_rep {H : Hp} (hz : Sub Z H) : ∀ {ys : List D} {vs : List V} {ks : List (Key × D)}, Reps K mu Z ys vs → pairsD ys = some ks →
    ∃ (ps : List Addr) (kvs : List (Key × V)), vs = ps.map V.ref ∧ Paired (fun p kv => SqT K H p [kV kv.1, kv.2]) ps kvs ∧ ks.map (·.1) = kvs.map (·.1) ∧ Reps K mu Z (ks.map (·.2)) (kvs.map (·.2)) ∧ (∀ k, k ∈ ks.map (·.1) → KOk k) ∧ ks.length = ys.length
  | [], _, ks, .nil, e => by
    simp [pairsD] at e; subst e
    exact ⟨[], [], rfl, .nil, rfl, .nil, fun k hk => by simp at hk, rfl⟩
  | d :: ys, _, ks, .cons (v := v) (vs := vs) r rs, e => by
    unfold pairsD at e
    split at e
    · cases ‹_ :: _ = []›
    · rename_i x y r' hd
      cases hd
      split at e
      · rename_i k ks' e1 e2
        cases e
        obtain ⟨ps, kvs, rfl, pr, ek, rv, ok, hl⟩ := pairs_rep hz rs e2
        cases r with
        | tup h rr _ =>
        cases rr with
        | cons rx rr =>
        cases rr with
        | cons ry rr =>
        cases rr
        have ev := keyOf_rep rx e1
        subst ev
        refine ⟨_ :: ps, (k, _) :: kvs, rfl, .cons (hz.sqT h.sq) pr, by simp [ek], .cons ry rv, fun j hj => ?_, by simp [hl]⟩
        rcases List.mem_cons.mp hj with rfl | hj
        · exact keyOf_ok rx e1
        · exact ok j hj
      · cases e
    · cases e
end
section
variable {X : Cx}
theorem pairs_of2 {pins : List (Addr × Obj)} {σ : L2.St} {H : Hp} {s : Shared} (I : Inv X pins σ H s) : ∀ {ps : List Addr} {kvs : List (Key × V)}, Paired (fun p kv => SqT X.K H p [kV kv.1, kv.2]) ps kvs →
    ∃ (prs : List (Key × Value)) (qs : List (Value × Value)), KV kvs prs ∧ prs.length = ps.length ∧ qs.length = ps.length ∧ ∀ (j : Nat) (k v : Value), qs[j]? = some (k, v) → (∃ b, ps[j]? = some b ∧ IsTup s.heap b #[k, v]) ∧ ∃ key, prs[j]? = some (key, v) ∧ (mixKind X.prog X.w).is key k = true
  | _, _, .nil => ⟨[], [], .nil, rfl, rfl, fun j k v e => by simp at e⟩
  | _, _, .cons (a := p) (b := kv) h t => by
    obtain ⟨prs, qs, r, hl, hl2, hp⟩ := pairs_of2 I t
    obtain ⟨its, rv, ht, _⟩ := I.tuple h
    obtain ⟨u, y, ei, ru, ry⟩ := vals2 rv
    subst ei
    refine ⟨(kv.1, y) :: prs, (u, y) :: qs, .cons ⟨rfl, ry⟩ r, by rw [List.length_cons, List.length_cons, hl], by rw [List.length_cons, List.length_cons, hl2], fun j k v e => ?_⟩
    cases j with
    | zero =>
      have e' : (u, y) = (k, v) := Option.some.inj e
      cases e'
      exact ⟨⟨p, rfl, ht⟩, kv.1, rfl, kV_is (P := X.prog) (w := X.w) ru⟩
    | succ j =>
      obtain ⟨⟨b, e1, e2⟩, key, e3, e4⟩ := hp j k v (by simpa using e)
      exact ⟨⟨b, by simpa using e1, e2⟩, key, by simpa using e3, e4⟩
def rDictA (K : PySem.W.Frag) : List V → Hp → VK → Prop := fun xs H Q => (∃ a kvs, xs = [.ref a] ∧ Rd H a (.dK kvs) ∧ ∀ p, H p = none → Q (.ref p) (upd H p (.dK kvs))) ∨
  ∃ (a : Addr) (ps : List Addr) (kvs : List (Key × V)), xs = [.ref a] ∧ (SqL K H a (ps.map V.ref) ∨ TupZ K H a (ps.map V.ref)) ∧ Paired (fun p kv => SqT K H p [kV kv.1, kv.2]) ps kvs ∧ ∀ p, H p = none → Q (.ref p) (upd H p (.dK (mergeK [] kvs)))
theorem call_dictT (hcalm : X.calm = true) : CallR X (.type "dict") (fun xs H Q => ∃ (a : Addr) (ps : List Addr) (kvs : List (Key × V)), xs = [.ref a] ∧ TupZ X.K H a (ps.map V.ref) ∧ Paired (fun p kv => SqT X.K H p [kV kv.1, kv.2]) ps kvs ∧
    ∀ p, H p = none → Q (.ref p) (upd H p (.dK (mergeK [] kvs)))) := by
  intro pins s σ H xs us Q I r q
  obtain ⟨a, ps, kvs, ex, hq, hp, q⟩ := q
  subst ex
  obtain ⟨u, eu, rx⟩ := vals1 r
  subst eu
  cases rx
  obtain ⟨its, rv, pl, hz⟩ := I.tuple hq.sq
  have ei := refs_at rv
  subst ei
  rw [List.length_map] at hz
  obtain ⟨prs, qs, rel, hl, hl2, hpr⟩ := pairs_of2 I hp
  obtain ⟨o, ho, hc, hd⟩ := hq.nodict I
  obtain ⟨o', ho', _, n, hdat⟩ := id pl
  rw [ho] at ho'; cases ho'
  refine PySem.call_dict_pairs (knd := mixKind X.prog X.w) (kvs := prs) (PairArg.tuple a (ps.map Value.ref).toArray (fun j => ps.getD j 0) qs) (I.ok.hd hcalm) ⟨⟨o, n, ho, hc, hd, hdat⟩, by simp [hl2], fun j k v e => ?_⟩ ⟨by rw [hl, hl2], fun i k v e => ?_⟩ (by rw [hl2]; exact hz) fun h' tk hd' k => ?_
  · obtain ⟨⟨b, e1, e2⟩, _⟩ := hpr j k v e
    have e3 : ps.getD j 0 = b := by rw [List.getD_eq_getElem?_getD, e1]; rfl
    show _ = some (Value.ref (ps.getD j 0)) ∧ PairAt s.heap (ps.getD j 0) k v
    rw [e3]
    exact ⟨by simp [e1], .inl e2⟩
  · obtain ⟨_, key, e3, e4⟩ := hpr i k v e
    exact ⟨key, e3, e4⟩
  · have hm : (s.heap.objs.size == sysModules) = false := beq_eq_false_iff_ne.mpr (Nat.ne_of_gt I.big)
    have hlen : (mergeK [] kvs).length ≤ sizeLine := by
      refine Nat.le_trans (length_mergeK kvs []) ?_
      rw [List.length_nil, Nat.zero_add, rel.length, hl]
      exact hz
    exact ⟨.ref s.heap.objs.size, upd H s.heap.objs.size (.dK (mergeK [] kvs)), I.laid (t' := tk) (fun b o e => k b o (by simp) e) (Nat.le_refl _) (show ObjOk X.prog X.w _ _ _ (.dK (mergeK [] kvs)) from ⟨hlen, hm, merged [] prs, KV.merge rel .nil, hd'⟩), rfl, q _ (I.hok.fresh (Nat.le_refl _))⟩
theorem cr_dict (hcalm : X.calm = true) : CallR X (.type "dict") (rDictA X.K) :=
  CallR.imp (CallR.or call_dictD (CallR.or (call_dictP hcalm) (call_dictT hcalm))) fun xs H Q q => by
    rcases q with q | ⟨a, ps, kvs, e, h | h, q⟩
    · exact .inl q
    · exact .inr (.inl ⟨a, ps, kvs, e, h, q⟩)
    · exact .inr (.inr ⟨a, ps, kvs, e, h, q⟩)
end
def dictOp (xs : List D) (h : Hh) : Res D := match xs with
  | [x] => match dcOf h x with
    | some ks => mkC ks h
    | none => match x with
      | .scr _ => .bad
      | _ => match sqOf h x with
        | some ys => match pairsD ys with
          | some ks => mkC (mergeD [] ks) h
          | none => .bad
        | none => .bad
  | _ => .bad
section
variable {K : PySem.W.Frag} {mu : List Addr} {Z H : Hp} {h : Hh}
theorem SR.newC {p : Addr} {ks : List (Key × D)} {kvs : List (Key × V)} {W : Value → Option Addr → Hp → Prop} {Q : VK} (sr : SR K mu Z H h) (ek : ks.map (·.1) = kvs.map (·.1)) (ok : (∀ k, k ∈ ks.map (·.1) → KOk k) ∧ ks.length ≤ sizeLine) (rv : Reps K mu Z (ks.map (·.2)) (kvs.map (·.2))) (hp : H p = none)
    (o : Out K mu Z H (mkC ks h) W fun v mu' Z' H' _ => ∀ u, Rep K mu' Z' v u → Q u H') : Q (.ref p) (upd H p (.dK kvs)) := by
  have pg := pre_get (mu := mu) (mu' := mu ++ [p]) ⟨[p], rfl⟩
  obtain ⟨q1, q2⟩ := sr.addM hp (.dK kvs) (.dic ks) ⟨kvs, upd_same, ek, ok, rv.mono pg (Sub.refl _)⟩
  exact o _ _ _ q1 q2 _ (.ref (by rw [← sr.len]; simp))
theorem opA_dict : OpA K (rDictA K) dictOp := by
  intro W xs us sg H Q o
  replace o := tA.one o
  obtain ⟨mu, Z, h, sr, rp, o⟩ := o
  unfold dictOp at o
  split at o
  · rename_i x
    obtain ⟨v, rfl, rx⟩ : ∃ v, us = [v] ∧ Rep K mu Z x v := by
      cases rp with
      | cons r rs => cases rs; exact ⟨_, rfl, r⟩
    split at o
    · rename_i ks e
      obtain ⟨a, kvs, rfl, hd, ek, ok, rv⟩ := sr.dc rx e
      exact .inl ⟨a, kvs, rfl, hd, fun p hp => sr.newC ek ok rv hp o⟩
    · rename_i e0
      split at o
      · exact o.elim
      · split at o
        · rename_i ys es
          split at o
          · rename_i ks ep
            have ⟨a, vs, ev, hs, rv⟩ : ∃ a vs, v = .ref a ∧ (SqL K H a vs ∨ TupZ K H a vs) ∧ Reps K mu Z ys vs := by
              cases x with
              | tup zs =>
                simp only [sqOf, Option.some.injEq] at es
                subst es
                cases rx with
                | tup h r l => exact ⟨_, _, rfl, .inr (sr.zin.tupZ h), r⟩
              | lst zs =>
                obtain ⟨a, vs, e1, e2, e3⟩ := sr.ls rx (xs := ys) (by simpa [sqOf, lsOf] using es)
                exact ⟨a, vs, e1, .inl (.inl (.inl e2)), e3⟩
              | ref n =>
                obtain ⟨a, vs, e1, e2, e3⟩ := sr.ls rx (xs := ys) (by simpa [sqOf] using es)
                exact ⟨a, vs, e1, .inl (.inl (.inl e2)), e3⟩
              | scr ns => exact absurd rfl (‹∀ (ns : List Int), D.scr _ = D.scr ns → False› ns)
              | _ => simp [sqOf, lsOf] at es
            subst ev
            obtain ⟨ps, kvs, rfl, pr, ek, rw_, ok, hl⟩ := pairs_rep sr.zin rv ep
            refine .inr ⟨a, ps, kvs, rfl, hs, pr, fun p hp => ?_⟩
            obtain ⟨m1, m2, m3⟩ := merge_rep (ks := []) (kvs := []) ek rw_ ok rfl .nil (fun k hk => by simp at hk)
            have hlen := sr.sqLen rx es
            exact sr.newC m1 ⟨m3, by have := mergeD_len ks []; simp at this; omega⟩ m2 hp o
          · exact o.elim
        · exact o.elim
  · exact o.elim
end
section
variable {W : WXx} {X : Cx} {a e o : Expr} {fr : AM} {fo : EM} {p pos apos cpos : Pos}
theorem se_dict (hc : X.calm = true) (hg : Gl X "dict") (hm : X.mg "dict" = none) (ha : SA W X [a] fr) (he : starEach [a] X.env = (false, eval a X.env) :: starEach [] X.env := by rfl) (hpl : (backTo pos (starEach [] X.env)).any (·.1) = false := by rfl) : SE W X (.Call (.Name "dict" p) [a] [] pos) (mApp dictOp fr) :=
  se_callTy (cr_dict hc) opA_dict hg hm rfl ha (by decide) (by decide) he hpl
/-- d.update(e) -/
def rUpd : V → List V → Hp → VK → Prop := fun x xs H Q => ∃ a b kvs more, x = .ref a ∧ xs = [.ref b] ∧ a ≠ b ∧ H a = some (.dK kvs) ∧ Rd H b (.dK more) ∧ kvs.length + more.length ≤ sizeLine ∧ Q .non (upd H a (.dK (mergeK kvs more)))
theorem mt_upd : MtR X "dict.update" rUpd := by
  intro pins s σ H x xs v us Q I rx rs h
  obtain ⟨a, b, kvs, more, rfl, rfl, hab, ha, hb, hl, q⟩ := h
  cases rx
  obtain ⟨u, rfl, ru⟩ := vals1 rs
  cases ru
  obtain ⟨z, hd, vs, rel, dd⟩ := dk_of I.hok ha
  obtain ⟨z2, hd2, vs2, rel2, dd2⟩ := dk_rd I.hok hb
  have hlen : (mergeK kvs more).length ≤ sizeLine := Nat.le_trans (length_mergeK more kvs) hl
  refine call_meetsIn PySem.F.slot_dict_update dd.typeIs PySem.F.entry_dict_update (PySem.F.args_dict_update_2 _ _) (meets_dict_update (mixKind X.prog X.w) a b hab hd2) ⟨vs, vs2, dd, dd2, by rw [← rel.length, ← rel2.length]; exact hl, fun h' dd' _ hs => ?_⟩
  have he : ∃ q, h'.get? a = some q := let ⟨q, _, _, hq, _⟩ := dd'; ⟨q, hq⟩
  exact ⟨.non, _, d_write (t' := s.toks) I (by rw [ha]; exact True.intro) hs he (dk_new hlen hd (KV.merge rel2 rel) dd'), rfl, q⟩
def updOp (x : D) (xs : List D) (h : Hh) : Res D := match cellD h x, xs with
  | some (n, ks), [y] => match y with
    | .dic ms => if ks.length + ms.length ≤ sizeLine then .ok .non (h.set n (.dic (mergeD ks ms))) else .bad
    | .ref m => if m = n then .bad else (match dcOf h (.ref m) with
      | some ms => if ks.length + ms.length ≤ sizeLine then .ok .non (h.set n (.dic (mergeD ks ms))) else .bad
      | none => .bad)
    | _ => .bad
  | _, _ => .bad
theorem opM_upd {K : PySem.W.Frag} : OpM K rUpd updOp := by
  intro W x u xs us sg H Q o
  replace o := o.met
  obtain ⟨mu, Z, h, sr, rx, rp, o⟩ := o
  unfold updOp at o
  split at o
  · rename_i n ks y e1
    obtain ⟨a, kvs, rfl, hm, ha, ek, ok, rv⟩ := sr.cD rx e1
    obtain ⟨v, rfl, ry⟩ : ∃ v, us = [v] ∧ Rep K mu Z y v := by
      cases rp with
      | cons r rs => cases rs; exact ⟨_, rfl, r⟩
    have fin : ∀ ms, dcOf h y = some ms → (∀ b, v = .ref b → a ≠ b) → (if ks.length + ms.length ≤ sizeLine then (.ok .non (h.set n (.dic (mergeD ks ms))) : Res D) else .bad) = (if ks.length + ms.length ≤ sizeLine then (.ok .non (h.set n (.dic (mergeD ks ms))) : Res D) else .bad) →
        Out K mu Z H (if ks.length + ms.length ≤ sizeLine then (.ok .non (h.set n (.dic (mergeD ks ms))) : Res D) else .bad) (fun c d H' => W c d sg H') (fun v mu' Z' H' _ => ∀ u, Rep K mu' Z' v u → Q u H') → rUpd (.ref a) [v] H Q := by
      intro ms e2 hne _ o
      obtain ⟨b, more, rfl, hb, ek2, ok2, rv2⟩ := sr.dc ry e2
      split at o
      · rename_i hl
        obtain ⟨m1, m2, m3⟩ := merge_rep ek2 rv2 ok2.1 ek rv ok.1
        have l1 : ks.length = kvs.length := by simpa using congrArg List.length ek
        have l2 : ms.length = more.length := by simpa using congrArg List.length ek2
        refine ⟨a, b, kvs, more, rfl, rfl, hne b rfl, ha, hb, by omega, ?_⟩
        exact Out.wrD sr hm m1 ⟨m3, Nat.le_trans (mergeD_len ms ks) hl⟩ m2 rfl .non o
      · exact o.elim
    split at o
    · rename_i ms
      refine fin ms rfl (fun b eb => ?_) rfl o
      subst eb
      cases ry with
      | dic q _ _ _ =>
        intro e
        subst e
        have := sr.sep _ (List.mem_of_getElem? hm)
        rw [this] at q; cases q
    · rename_i m
      split at o
      · exact o.elim
      · rename_i hne
        split at o
        · rename_i ms e2
          refine fin ms e2 (fun b eb => ?_) rfl o
          subst eb
          cases ry with
          | ref q =>
            intro e
            subst e
            exact hne (nodup_inj sr.nd q hm)
        · exact o.elim
    · exact o.elim
  · exact o.elim
theorem se_upd (ho : SE W X o fo) (ha : SA W X [e] fr)
    (hbase : attributeBase o "update" X.env (eval o X.env) = eval o X.env := by rfl)
    (hfew : ((backTo cpos (starEach [e] X.env)).all (fun x => !x.1) && (backToKw cpos (keywordEach [] X.env)).all (fun x => x.1.isSome)
      && decide ([e].length + ([] : List Keyword).length + (if ([] : List Keyword).isEmpty then 0 else 1) < 30)) = true := by rfl)
    (hline : (apos.endLine == cpos.line) = true := by rfl) (hs : starEach [e] X.env = (false, eval e X.env) :: starEach [] X.env := by rfl) (hplain : (backTo cpos (starEach [] X.env)).any (·.1) = false := by rfl) :
    SE W X (.Call (.Attribute o "update" apos) [e] [] cpos) (mMet .dic updOp fo fr) :=
  se_met (T := .dic) (.inr (.inl rfl)) PySem.F.plainAttrs_dict PySem.F.slot_dict_update PySem.F.type_dict_update mt_upd opM_upd ho ha hbase hfew hline hs hplain
end
end TB
end

section
set_option Elab.async false
set_option linter.all false
set_option maxRecDepth 100000
set_option autoImplicit false
set_option maxHeartbeats 1000000
/-! TB42: defs that give dicts and what holds cells: at the end all that is new changes no more. -/
namespace TB
open PySem PySem.Spec PyProof.Rows L2
variable [LC] [LT]
/-- steps that only our book sees: things locked for good -/
inductive Gh (R : Hp → Prop) : Hp → Prop
  | done {H : Hp} : R H → Gh R H
  | lock {H : Hp} {d : Addr} {u : HO} : H d = some u → Mut (some u) → (∀ od, Gh R (upd H d (.frz od u))) → Gh R H
theorem Gh.run {X : Cx} {pins : List (Addr × Obj)} {σ : L2.St} {H : Hp} {s : Shared} {R : Hp → Prop} (g : Gh R H) (I : Inv X pins σ H s) : ∃ H2, Inv X pins σ H2 s ∧ R H2 := by
  induction g with
  | done r => exact ⟨_, I, r⟩
  | lock h m _ ih =>
    obtain ⟨od, I2⟩ := I.lock h m
    exact ih od I2
def tGh (t : TS) : TS := fun D σ H => t { D with rt := fun v H1 => Gh (D.rt v) H1 } σ H
theorem PSs.gh {X : Cx} {b : List Stmt} {t : TS} (h : PSs X b t) : PSs X b (tGh t) := ⟨fun pins s σ H D I hw => thn (h.run pins s σ H _ I hw) fun f s1 q => by
  cases f with
  | next => exact q
  | brk => exact q
  | cont => exact q
  | ret v =>
    obtain ⟨x, σ', H', I2, r, q⟩ := q
    obtain ⟨H2, I3, q⟩ := q.run I2
    exact ⟨x, σ', H2, I3, r, q⟩⟩
/-- a dict in the book -/
inductive IsDc : HO → Prop
  | k (kvs : List (Key × V)) : IsDc (.dK kvs)
  | n (w : World) (a : Addr) (ys : List (NestedKey × Addr × V)) : IsDc (NDO w a ys)
theorem IsDc.mut {u : HO} (h : IsDc u) : Mut (some u) := by cases h <;> trivial
theorem gh_all {R : Hp → Prop} : ∀ (as : List Addr) (H : Hp), as.Nodup → (∀ a, a ∈ as → ∃ u, H a = some u) →
    (∀ H2, (∀ a, a ∉ as → H2 a = H a) → (∀ a u, a ∈ as → H a = some u → (IsDc u ∧ ∃ od, H2 a = some (.frz od u)) ∨ (¬ IsDc u ∧ H2 a = some u)) → R H2) → Gh R H
  | [], H, _, _, r => .done (r H (fun _ _ => rfl) fun a u h => by cases h)
  | a :: as, H, nd, ex, r => by
    rw [List.nodup_cons] at nd
    obtain ⟨u, hu⟩ := ex a List.mem_cons_self
    by_cases hd : IsDc u
    · refine .lock hu hd.mut fun od => gh_all as _ nd.2 (fun b hb => ?_) fun H2 h1 h2 => r H2 (fun b hb => ?_) fun b v hb hv => ?_
      · obtain ⟨v, hv⟩ := ex b (List.mem_cons_of_mem _ hb)
        exact ⟨v, by rw [upd_ne (show b ≠ a from fun z => nd.1 (by rw [← z]; exact hb))]; exact hv⟩
      · rw [h1 b fun z => hb (List.mem_cons_of_mem _ z), upd_ne (show b ≠ a from fun z => hb (by rw [z]; exact List.mem_cons_self))]
      · rcases List.mem_cons.mp hb with rfl | hb
        · rw [hu] at hv; cases hv
          exact .inl ⟨hd, od, by rw [h1 _ nd.1, upd_same]⟩
        · exact h2 b v hb (by rw [upd_ne (show b ≠ a from fun z => nd.1 (by rw [← z]; exact hb))]; exact hv)
    · refine gh_all as _ nd.2 (fun b hb => ex b (List.mem_cons_of_mem _ hb)) fun H2 h1 h2 => r H2 (fun b hb => h1 b fun z => hb (List.mem_cons_of_mem _ z)) fun b v hb hv => ?_
      rcases List.mem_cons.mp hb with rfl | hb
      · rw [hu] at hv; cases hv
        exact .inr ⟨hd, by rw [h1 _ nd.1]; exact hu⟩
      · exact h2 b v hb hv
mutual
/-- a result as it stays when all cells from k on change no more -/
def frzG (k : Nat) (h : Hh) : Nat → D → Option D
  | 0, _ => none
  | f + 1, d => if low k d = true then some d else match d with
    | .ref n => match h[n]? with
      | some (.lst xs) => (frzGs k h f xs).map D.lst
      | some (.dic ks) => (frzGs k h f (ks.map (·.2))).map fun vs => D.dic ((ks.map (·.1)).zip vs)
      | some (.dit kts) => if lows k (kts.map (·.1)) = true then (frzGs k h f (kts.map (·.2))).map fun vs => D.dit ((kts.map (·.1)).zip vs) else none
      | _ => none
    | .tup xs => (frzGs k h f xs).map D.tup
    | .lst xs => (frzGs k h f xs).map D.lst
    | _ => none
def frzGs (k : Nat) (h : Hh) : Nat → List D → Option (List D)
  | 0, _ => none
  | _ + 1, [] => some []
  | f + 1, x :: r => match frzG k h f x, frzGs k h (f + 1) r with
    | some y, some s => some (y :: s)
    | _, _ => none
end
section
variable {K : PySem.W.Frag} {mu mu' : List Addr} {Z Z1 H H1 H2 : Hp} {h h1 : Hh} {k : Nat}
def zcutG (k : Nat) (mu : List Addr) (Z H2 : Hp) : Hp := fun a => if a ∈ mu.drop k then H2 a else Z a
/-- H2 is H with the dicts from k on locked -/
structure Lkd (k : Nat) (mu : List Addr) (H H2 : Hp) : Prop where
  out : ∀ a, a ∉ mu.drop k → H2 a = H a
  inn : ∀ a u, a ∈ mu.drop k → H a = some u → (IsDc u ∧ ∃ od, H2 a = some (.frz od u)) ∨ (¬ IsDc u ∧ H2 a = some u)
theorem zcutG_sub (sr : SR K mu Z H h) : Sub Z (zcutG k mu Z H2) := fun a o e => by
  unfold zcutG
  split
  · rename_i hm
    have := sr.sep a (List.mem_of_mem_drop hm)
    rw [e] at this; cases this
  · exact e
theorem mem_dropk {n : Nat} {a : Addr} (e : mu[n]? = some a) (hn : k ≤ n) : a ∈ mu.drop k := by
  rw [List.mem_iff_getElem?]
  exact ⟨n - k, by rw [List.getElem?_drop]; rw [show k + (n - k) = n by omega]; exact e⟩
theorem lst_ndc {vs : List V} : ¬ IsDc (.lst vs) := fun z => by cases z
theorem ins_ndc {c d : Addr} {fs : List (Str × V)} : ¬ IsDc (.ins c d fs) := fun z => by cases z
theorem map_zip1 {α β : Type} : ∀ {l : List α} {m : List β}, l.length = m.length → (l.zip m).map (·.1) = l
  | [], [], _ => rfl
  | _ :: _, [], h => by simp at h
  | [], _ :: _, h => by simp at h
  | a :: l, b :: m, h => by simp only [List.zip_cons_cons, List.map_cons]; rw [map_zip1 (by simpa using h)]
theorem map_zip2 {α β : Type} : ∀ {l : List α} {m : List β}, l.length = m.length → (l.zip m).map (·.2) = m
  | [], [], _ => rfl
  | _ :: _, [], h => by simp at h
  | [], _ :: _, h => by simp at h
  | a :: l, b :: m, h => by simp only [List.zip_cons_cons, List.map_cons]; rw [map_zip2 (by simpa using h)]
theorem frzGs_len (k : Nat) (h : Hh) : ∀ (f : Nat) (xs ys : List D), frzGs k h f xs = some ys → ys.length = xs.length
  | 0, _, _, e => by unfold frzGs at e; cases e
  | f + 1, [], _, e => by unfold frzGs at e; cases e; rfl
  | f + 1, x :: r, _, e => by
    unfold frzGs at e
    split at e
    · rename_i y s e1 e2
      cases e
      simp [frzGs_len k h (f + 1) r s e2]
    · cases e
mutual
theorem frzG_rep (sr : SR K mu Z H h) (L : Lkd k mu H H2) : ∀ {f : Nat} {d d' : D} {v : V}, Rep K mu Z d v → frzG k h f d = some d' → Rep K (mu.take k) (zcutG k mu Z H2) d' v
  | 0, _, _, _, _, q => by unfold frzG at q; cases q
  | f + 1, d, d', v, r, q => by
    unfold frzG at q
    split at q
    · rename_i hl
      cases q
      exact r.low take_get (zcutG_sub sr) hl
    · rename_i hl
      split at q
      · rename_i n
        cases r with
        | @ref _ a e =>
          have hn : k ≤ n := by
            simp only [low, decide_eq_true_eq] at hl
            omega
          have hm := mem_dropk e hn
          split at q
          · rename_i xs hx
            obtain ⟨ys, hy, rfl⟩ := Option.map_eq_some_iff.mp q
            obtain ⟨l, vs, e1, rp⟩ := sr.cell n _ a hx e
            refine .lst (vs := vs) ?_ (frzGs_rep sr L rp hy) (by rw [frzGs_len _ _ _ _ _ hy]; exact l)
            unfold zcutG
            rw [if_pos hm]
            rcases L.inn a _ hm e1 with ⟨z, _⟩ | ⟨_, z⟩
            · exact absurd z lst_ndc
            · exact z
          · rename_i ks hx
            obtain ⟨ys, hy, rfl⟩ := Option.map_eq_some_iff.mp q
            obtain ⟨kvs, e1, ek, ok, rp⟩ := sr.cell n _ a hx e
            have hlen := frzGs_len _ _ _ _ _ hy
            have hl1 : (ks.map (·.1)).length = ys.length := by rw [hlen]; simp
            rcases L.inn a _ hm e1 with ⟨_, od, z⟩ | ⟨z, _⟩
            · refine .dic (o := od) (kvs := kvs) ?_ (by rw [map_zip1 hl1]; exact ek) ⟨by rw [map_zip1 hl1]; exact ok.1, ?_⟩ (by rw [map_zip2 hl1]; exact frzGs_rep sr L rp hy)
              · unfold zcutG
                rw [if_pos hm]; exact z
              · rw [List.length_zip, hlen]
                simp
                exact ok.2
            · exact absurd (.k _) z
          · rename_i kts hx
            split at q
            · rename_i hlk
              obtain ⟨ys, hy, rfl⟩ := Option.map_eq_some_iff.mp q
              obtain ⟨yy, e1, ek, ln, rk, rp⟩ := sr.cell n _ a hx e
              have hlen := frzGs_len _ _ _ _ _ hy
              have hl1 : (kts.map (·.1)).length = ys.length := by rw [hlen]; simp
              have ek2 : ∀ l : List (D × D), l.map (fun p => nkT p.1) = (l.map (·.1)).map nkT := fun l => by simp
              rcases L.inn a _ hm e1 with ⟨_, od, z⟩ | ⟨z, _⟩
              · refine .dit (o := od) (ys := yy) ?_ (by rw [ek2, map_zip1 hl1, ← ek2]; exact ek) ?_ (by rw [map_zip1 hl1]; exact rk.low take_get (zcutG_sub sr) hlk) (by rw [map_zip2 hl1]; exact frzGs_rep sr L rp hy)
                · unfold zcutG
                  rw [if_pos hm]; exact z
                · rw [List.length_zip, hlen]
                  simp
                  exact ln
              · exact absurd (.n _ _ _) z
            · cases q
          · cases q
      · rename_i xs
        cases r with
        | tup h1 r l =>
          obtain ⟨ys, hy, rfl⟩ := Option.map_eq_some_iff.mp q
          exact .tup ((zcutG_sub sr).tupZ h1) (frzGs_rep sr L r hy) (by rw [frzGs_len _ _ _ _ _ hy]; exact l)
      · rename_i xs
        cases r with
        | lst h1 r l =>
          obtain ⟨ys, hy, rfl⟩ := Option.map_eq_some_iff.mp q
          exact .lst (zcutG_sub sr _ _ h1) (frzGs_rep sr L r hy) (by rw [frzGs_len _ _ _ _ _ hy]; exact l)
      · cases q
termination_by f => (f, 0)
theorem frzGs_rep (sr : SR K mu Z H h) (L : Lkd k mu H H2) : ∀ {f : Nat} {ds ds' : List D} {vs : List V}, Reps K mu Z ds vs → frzGs k h f ds = some ds' → Reps K (mu.take k) (zcutG k mu Z H2) ds' vs
  | 0, _, _, _, _, q => by unfold frzGs at q; cases q
  | f + 1, [], _, _, .nil, q => by unfold frzGs at q; cases q; exact .nil
  | f + 1, x :: xs, _, _, .cons r rs, q => by
    unfold frzGs at q
    split at q
    · rename_i y s e1 e2
      cases q
      exact .cons (frzG_rep sr L r e1) (frzGs_rep sr L rs e2)
    · cases q
termination_by f ds => (f, ds.length + 1)
end
theorem SR.cutG (sr : SR K mu Z H h) (L : Lkd k mu H H2) (hl : (h.take k).all (obLow k) = true) : SR K (mu.take k) (zcutG k mu Z H2) H2 (h.take k) := by
  have nd := sr.nd
  rw [← List.take_append_drop k mu, List.nodup_append] at nd
  have nin : ∀ a, a ∈ mu.take k → a ∉ mu.drop k := fun a ha hd => nd.2.2 a ha a hd rfl
  refine ⟨fun a o e => ?_, by simp [sr.len], sr.nd.sublist (List.take_sublist _ _), fun a ha => ?_, fun n ob a e1 e2 => ?_, ⟨tabs_keep sr.tb.t fun b u e q => ?_, fun a ps e => ?_⟩⟩
  · unfold zcutG at e
    split at e
    · exact e
    · rename_i hd
      rw [L.out a hd]
      exact sr.zin a o e
  · unfold zcutG
    rw [if_neg (nin a ha)]
    exact sr.sep a (List.mem_of_mem_take ha)
  · have hn : n < k := by
      have := (List.getElem?_eq_some_iff.mp e1).1
      rw [List.length_take] at this
      omega
    have hlow : obLow k ob = true := List.all_eq_true.mp hl ob (List.mem_of_getElem? e1)
    have hm : a ∈ mu.take k := List.mem_of_getElem? e2
    rw [List.getElem?_take_of_lt hn] at e1 e2
    exact (sr.cell n ob a e1 e2).low take_get (zcutG_sub sr) (fun o z => by rw [L.out a (nin a hm)]; exact z) hlow
  · by_cases hd : b ∈ mu.drop k
    · obtain ⟨n1, n2⟩ := sr.ntb (List.mem_of_mem_drop hd) u e
      rcases q with ⟨ps, q⟩ | ⟨c, x, q⟩
      · exact absurd q (n1 ps)
      · exact absurd q (n2 c x)
    · rw [L.out b hd]; exact e
  · unfold zcutG at e
    split at e
    · rename_i hd
      obtain ⟨u, hu⟩ := sr.tracked (List.mem_of_mem_drop hd)
      rcases L.inn a u hd hu with ⟨_, od, z⟩ | ⟨_, z⟩
      · rw [e] at z; cases z
      · rw [e] at z; cases z
        exact (sr.ntb (List.mem_of_mem_drop hd) _ hu).1 ps rfl
    · exact sr.tb.z a ps e
theorem Stp.cutG (p : Stp mu Z H mu' Z1 H1) (sr : SR K mu' Z1 H1 h1) (L : Lkd k mu' H1 H2) (hk : mu.length = k) : mu'.take k = mu ∧ Stp mu Z H mu (zcutG k mu' Z1 H2) H2 := by
  obtain ⟨nu, e⟩ := p.pre
  have et : mu'.take k = mu := by rw [e, ← hk, List.take_left]
  have nd := sr.nd
  rw [← List.take_append_drop k mu', List.nodup_append] at nd
  have fresh : ∀ a, a ∈ mu'.drop k → H a = none := fun a hd => by
    rcases p.nm a (List.mem_of_mem_drop hd) with z | z
    · exact absurd rfl (nd.2.2 a (by rw [et]; exact z) a hd)
    · exact z
  refine ⟨et, ⟨[], by simp⟩, p.zm.trans (zcutG_sub sr), fun a o q hm ht => ?_, fun a h => .inl h, fun a o q => ?_, fun a o q => ?_⟩
  · rw [L.out a fun hd => by rw [fresh a hd] at q; cases q]
    exact p.fr a o q hm ht
  · unfold zcutG at q
    split at q
    · rename_i hd
      exact .inr (fresh a hd)
    · exact p.nz a o q
  · obtain ⟨o', z⟩ := p.al a o q
    exact ⟨o', by rw [L.out a fun hd => by rw [fresh a hd] at q; cases q]; exact z⟩
end
/-- the end of a def, all that is new locked -/
def finG (k : Nat) (v : D) (h : Hh) : Res D :=
  if (h.take k).all (obLow k) = true then (match frzG k h 9 v with
    | some v' => .ok v' (h.take k)
    | none => .bad) else .bad
def callG (sm : SM) (n : Nat) : FM := fun ds h => match sm (startD n ds) h with
  | .ok (.rt v) h1 => finG h.length v h1
  | .ok (.nx _) h1 => fin false h.length .non h1
  | _ => .bad
theorem finG_ok {K : PySem.W.Frag} {mu mu1 : List Addr} {Z H Z1 H1 : Hp} {h h1 : Hh} {v : D} {u : V} {Q : VK} (sr : SR K mu Z H h) (sr1 : SR K mu1 Z1 H1 h1) (p1 : Stp mu Z H mu1 Z1 H1) (r : Rep K mu1 Z1 v u)
    (o : Out K mu Z H (finG h.length v h1) (fun _ _ _ => False) fun v mu' Z' H' _ => ∀ u, Rep K mu' Z' v u → Q u H') : Gh (Q u) H1 := by
  unfold finG at o
  split at o
  · rename_i hl
    split at o
    · rename_i v' ev
      refine gh_all (mu1.drop h.length) H1 (sr1.nd.sublist (List.drop_sublist _ _)) (fun a ha => sr1.tracked (List.mem_of_mem_drop ha)) fun H2 q1 q2 => ?_
      have L : Lkd h.length mu1 H1 H2 := ⟨q1, q2⟩
      obtain ⟨et, p2⟩ := p1.cutG sr1 L sr.len
      have c := sr1.cutG L hl
      rw [et] at c
      have r2 := frzG_rep sr1 L r ev
      rw [et] at r2
      exact o mu _ H2 c p2 u r2
    · exact o.elim
  · exact o.elim
theorem fn_okG {P : Program} {w : World} {K : PySem.W.Frag} {mg : Str → Option Value} {base : Heap} {x qual : Str} {st : Stmt} {f : Addr} {fd : FuncData} {N ps : List Str} {k : Nat} {sm : SM} (F : Fun K x qual st f fd) (S : FnScope N ps (defScope st))
    (hb : ∀ (cdv : Value) (A : Around) (outer : List Env) (s : Shared) (H : Hp) (E : XK), Room k (A.deeper (envOfC qual (defScope st) s.heap.objs.size f cdv)) → SSs WF (cxOf CX0 P w K mg base N qual (defScope st) f cdv A outer s H E).nox (defBody st) sm) :
    FnOk P w K mg base CX0 (k + 1) f fd ps (spF K ps.length (callG sm N.length)) := by
  refine F.ok S (fun vs H Q E h => h.1) (fun cdv A outer s H vs Q E hr h => ⟨_, PSs.gh (hb cdv A outer s H E hr), ?_⟩)
  obtain ⟨_, mu, Z, h, ds, sr, rp, o⟩ := h
  refine ⟨mu, Z, h, startD N.length ds, sr, sltR_start N rp, .nil, ?_⟩
  unfold callG at o
  cases e : sm (startD N.length ds) h with
  | ok fl h1 =>
    cases fl with
    | rt v =>
      simp only [e] at o
      exact fun mu1 Z1 H1 sr1 p1 u ru => finG_ok sr sr1 p1 ru o
    | nx s1 =>
      simp only [e] at o
      exact fun mu1 Z1 H1 sr1 p1 sg _ => fin_ok sr sr1 p1 .non o
    | bk s1 => simp only [e] at o; exact o.elim
    | ct s1 => simp only [e] at o; exact o.elim
    | rs x s1 => simp only [e] at o; exact o.elim
  | ex x h1 => simp only [e] at o; exact o.elim
  | bad => simp only [e] at o; exact o.elim
end TB
end

section
set_option Elab.async false
set_option linter.all false
set_option maxRecDepth 100000
set_option autoImplicit false
set_option maxHeartbeats 1000000
/-! TB43: x.index(y) of a list or a tuple. -/
namespace TB
open PySem PySem.Spec PyProof.Rows L2
variable [LC] [LT]
theorem PE.or {X : Cx} {e : Expr} {t1 t2 : TE} (h1 : PE X e t1) (h2 : PE X e t2) : PE X e (fun σ H Q => t1 σ H Q ∨ t2 σ H Q) :=
  ⟨fun pins s σ H Q I q => q.elim (h1.run pins s σ H Q I) (h2.run pins s σ H Q I)⟩
def mIdx (fo : EM) (fr : AM) : EM := fun s h => match fo s h with
  | .ok (.tup _) _ => mMet .tup indexTOp fo fr s h
  | _ => mMet .lst indexOp fo fr s h
section
variable {W : WXx} {X : Cx} {o e : Expr} {fo fa : EM} {fr : AM} {apos cpos : Pos}
theorem se_index (hu : X.A.units + 65 < cLine) (ho : SE W X o fo) (ha : SA W X [e] fr)
    (hbase : attributeBase o "index" X.env (eval o X.env) = eval o X.env := by rfl)
    (hfew : ((backTo cpos (starEach [e] X.env)).all (fun x => !x.1) && (backToKw cpos (keywordEach [] X.env)).all (fun x => x.1.isSome)
      && decide ([e].length + ([] : List Keyword).length + (if ([] : List Keyword).isEmpty then 0 else 1) < 30)) = true := by rfl)
    (hline : (apos.endLine == cpos.line) = true := by rfl) (hs : starEach [e] X.env = (false, eval e X.env) :: starEach [] X.env := by rfl) (hplain : (backTo cpos (starEach [] X.env)).any (·.1) = false := by rfl) :
    SE W X (.Call (.Attribute o "index" apos) [e] [] cpos) (mIdx fo fr) := by
  have h1 : SE W X (.Call (.Attribute o "index" apos) [e] [] cpos) (mMet .tup indexTOp fo fr) := se_met (T := .tup) (.inr (.inr (.inl rfl))) PySem.F.plainAttrs_tuple PySem.F.slot_tuple_index PySem.F.type_tuple_index (mt_indexT hu) opM_indexT ho ha hbase hfew hline hs hplain
  have h2 : SE W X (.Call (.Attribute o "index" apos) [e] [] cpos) (mMet .lst indexOp fo fr) := se_met (T := .lst) (.inl rfl) PySem.F.plainAttrs_list PySem.F.slot_list_index PySem.F.type_list_index (mt_indexD hu) opM_index ho ha hbase hfew hline hs hplain
  refine PE.imp (PE.or h1 h2) fun sg H Q o => ?_
  obtain ⟨mu, Z, h, s, sr, sl, rp, o⟩ := o
  unfold mIdx at o
  split at o
  · exact .inl ⟨mu, Z, h, s, sr, sl, rp, o⟩
  · exact .inr ⟨mu, Z, h, s, sr, sl, rp, o⟩
end
end TB
end

section
set_option Elab.async false
set_option linter.all false
set_option maxRecDepth 100000
set_option autoImplicit false
set_option maxHeartbeats 1000000
/-! PL: reasoning about mirrors. -/
namespace TB
open PySem PySem.Spec PyProof.Rows L2
/-- for what speaks of no tables -/
instance (priority := low) noLT : LT := ⟨[]⟩
instance (priority := low) noLC : LC := ⟨fun _ => 0, Str.ofString "", 0, 0, ⟨fun _ _ => 0, { strHash := fun _ => 0, shareClass := fun _ => 0, mergeTok := fun t => t, idOf := fun _ => 0, idOfShared := fun _ _ => 0, followText := fun _ => false, idOfImm := fun _ => 0 }⟩⟩

/-- r is a value with P -/
def Okv {α : Type} (r : Res α) (P : α → Hh → Prop) : Prop := ∃ a h, r = .ok a h ∧ P a h
theorem Okv.bind {α β : Type} {r : Res α} {k : α → Hh → Res β} {P : α → Hh → Prop} {Q : β → Hh → Prop} (h : Okv r P) (hk : ∀ a h, P a h → Okv (k a h) Q) : Okv (r.bind k) Q := by
  obtain ⟨a, h1, rfl, p⟩ := h
  exact hk a h1 p
theorem Okv.mono {α : Type} {r : Res α} {P Q : α → Hh → Prop} (h : Okv r P) (hk : ∀ a h, P a h → Q a h) : Okv r Q := by
  obtain ⟨a, h1, e, p⟩ := h
  exact ⟨a, h1, e, hk _ _ p⟩
theorem Okv.of {α : Type} {a : α} {h : Hh} {P : α → Hh → Prop} (p : P a h) : Okv (.ok a h) P := ⟨a, h, rfl, p⟩
theorem Okv.eq {α : Type} {r : Res α} {a : α} {h : Hh} {P : α → Hh → Prop} (e : r = .ok a h) (p : P a h) : Okv r P := ⟨a, h, e, p⟩
/-- one turn of a comprehension -/
def lcF (g : GM) (ft : TM) (fe : EM) (own : List Nat) (s : Sl) (x : D) (h : Hh) : Res (Option D) :=
  bnd (g x (wip s own) h) fun s1 h1 => bnd (ft s1 h1) fun b h2 => if b = true then bnd (fe s1 h2) fun v h3 => .ok (some v) h3 else .ok none h2
theorem lcL_cons {g : GM} {ft : TM} {fe : EM} {own : List Nat} {lk : Lk} {s : Sl} {x : D} {xs acc : List D} {h h' : Hh} {v : Option D} (hl : lockOk lk h) (e : lcF g ft fe own s x h = .ok v h') : lcL g ft fe own lk s (x :: xs) acc h = lcL g ft fe own lk s xs (acc ++ v.toList) h' := by
  unfold lcF at e
  simp only [lcL, if_pos hl]
  cases eg : g x (wip s own) h with
  | ok s1 h1 =>
    simp only [eg, bnd] at e ⊢
    cases et : ft s1 h1 with
    | ok b h2 =>
      simp only [et] at e ⊢
      cases b with
      | false =>
        simp only [Bool.false_eq_true, if_false] at e ⊢
        cases e; simp
      | true =>
        simp only [if_true] at e ⊢
        cases ee : fe s1 h2 with
        | ok u h3 => simp only [ee] at e ⊢; cases e; simp
        | ex x h3 => simp only [ee] at e; cases e
        | bad => simp only [ee] at e; cases e
    | ex x h3 => simp only [et] at e; cases e
    | bad => simp only [et] at e; cases e
  | ex x h3 => simp only [eg, bnd] at e; cases e
  | bad => simp only [eg, bnd] at e; cases e
/-- a comprehension that changes nothing -/
theorem lcL_pure {g : GM} {ft : TM} {fe : EM} {own : List Nat} {lk : Lk} {s : Sl} {f : D → Option D} {h : Hh} (hl : lockOk lk h) : ∀ {xs acc : List D}, (∀ x, x ∈ xs → lcF g ft fe own s x h = .ok (f x) h) → lcL g ft fe own lk s xs acc h = .ok (acc ++ xs.filterMap f) h
  | [], acc, _ => by simp [lcL, hl]
  | x :: xs, acc, hx => by
    rw [lcL_cons hl (hx x List.mem_cons_self), lcL_pure hl fun y hy => hx y (List.mem_cons_of_mem _ hy)]
    cases e : f x <;> simp [List.filterMap_cons, e]
/-- a comprehension that keeps I -/
theorem lcL_inv {g : GM} {ft : TM} {fe : EM} {own : List Nat} {s : Sl} (I : List D → List D → Hh → Prop) : ∀ {xs acc : List D} {h : Hh} {dn : List D}, I dn acc h →
    (∀ dn x rest acc h, dn ++ x :: rest = dn ++ x :: rest → x ∈ xs → I dn acc h → ∃ v h', lcF g ft fe own s x h = .ok v h' ∧ I (dn ++ [x]) (acc ++ v.toList) h') → ∃ acc' h', lcL g ft fe own none s xs acc h = .ok acc' h' ∧ I (dn ++ xs) acc' h'
  | [], acc, h, dn, hi, _ => ⟨acc, h, by simp [lcL, lockOk], by simpa using hi⟩
  | x :: xs, acc, h, dn, hi, st => by
    obtain ⟨v, h1, e1, i1⟩ := st dn x xs acc h rfl List.mem_cons_self hi
    obtain ⟨acc', h', e2, i2⟩ := lcL_inv I (xs := xs) i1 fun dn y rest acc h e hy => st dn y rest acc h e (List.mem_cons_of_mem _ hy)
    refine ⟨acc', h', ?_, by simpa using i2⟩
    rw [lcL_cons (show lockOk none h from trivial) e1, e2]
/-- a loop that keeps I and never leaves early -/
theorem forL_inv {g : GM} {f : SM} (I : List D → Sl → Hh → Prop) : ∀ {xs : List D} {s : Sl} {h : Hh} {dn : List D}, I dn s h →
    (∀ dn x s h, x ∈ xs → I dn s h → ∃ s1 h1, g x s h = .ok s1 h1 ∧ ∃ s2 h2, (f s1 h1 = .ok (.nx s2) h2 ∨ f s1 h1 = .ok (.ct s2) h2) ∧ I (dn ++ [x]) s2 h2) →
    ∃ s' h', forL g f none xs s h = .ok (.nx s') h' ∧ I (dn ++ xs) s' h'
  | [], s, h, dn, hi, _ => ⟨s, h, by simp [forL, lockOk], by simpa using hi⟩
  | x :: xs, s, h, dn, hi, st => by
    obtain ⟨s1, h1, e1, s2, h2, e2, i2⟩ := st dn x s h List.mem_cons_self hi
    obtain ⟨s', h', e3, i3⟩ := forL_inv I (xs := xs) i2 fun dn y s h hy => st dn y s h (List.mem_cons_of_mem _ hy)
    refine ⟨s', h', ?_, by simpa using i3⟩
    rcases e2 with e2 | e2
    · simp [forL, lockOk, e1, stE, e2, flow, e3]
    · simp [forL, lockOk, e1, stE, e2, flow, e3]
end TB
namespace TB
open PySem PySem.Spec PyProof.Rows L2
@[simp] theorem Okv_ok {α : Type} {a : α} {h : Hh} {P : α → Hh → Prop} : Okv (.ok a h) P ↔ P a h := ⟨fun ⟨_, _, e, p⟩ => by cases e; exact p, fun p => ⟨a, h, rfl, p⟩⟩
@[simp] theorem Okv_bad {α : Type} {P : α → Hh → Prop} : Okv (.bad : Res α) P ↔ False := ⟨fun ⟨_, _, e, _⟩ => (nomatch e), False.elim⟩
@[simp] theorem Okv_ex {α : Type} {x : Exn} {h : Hh} {P : α → Hh → Prop} : Okv (.ex x h : Res α) P ↔ False := ⟨fun ⟨_, _, e, _⟩ => (nomatch e), False.elim⟩
@[simp] theorem Okv_bind {α β : Type} {r : Res α} {k : α → Hh → Res β} {P : β → Hh → Prop} : Okv (r.bind k) P ↔ Okv r fun a h => Okv (k a h) P := by
  cases r <;> simp
@[simp] theorem Okv_bnd {α β : Type} {r : Res α} {k : α → Hh → Res β} {P : β → Hh → Prop} : Okv (bnd r k) P ↔ Okv r fun a h => Okv (k a h) P := by
  cases r <;> simp [bnd]
@[simp] theorem Okv_ite {α : Type} {c : Prop} [Decidable c] {r t : Res α} {P : α → Hh → Prop} : Okv (if c then r else t) P ↔ if c then Okv r P else Okv t P := by
  split <;> rfl
/-- a block ends as told -/
def OkS (r : Res Fl) (N : Sl → Hh → Prop) (R : D → Hh → Prop) (B C : Sl → Hh → Prop) : Prop := Okv r fun fl h => match fl with
  | .nx s => N s h
  | .rt v => R v h
  | .bk s => B s h
  | .ct s => C s h
  | .rs _ _ => False
section
variable {N B C : Sl → Hh → Prop} {R : D → Hh → Prop} {s : Sl} {h : Hh} {fa fb : EM} {f k : SM} {ft : TM} {g : GM}
@[simp] theorem OkS_stE {α : Type} {r : Res α} {k : α → Hh → Res Fl} : OkS (stE r s k) N R B C ↔ Okv r fun a h => OkS (k a h) N R B C := by
  cases r <;> simp [stE, OkS]
@[simp] theorem OkS_nx : OkS (.ok (.nx s) h) N R B C ↔ N s h := by simp [OkS]
@[simp] theorem OkS_rt {v : D} : OkS (.ok (.rt v) h) N R B C ↔ R v h := by simp [OkS]
@[simp] theorem OkS_bk : OkS (.ok (.bk s) h) N R B C ↔ B s h := by simp [OkS]
@[simp] theorem OkS_ct : OkS (.ok (.ct s) h) N R B C ↔ C s h := by simp [OkS]
@[simp] theorem OkS_bad : OkS .bad N R B C ↔ False := by simp [OkS]
@[simp] theorem OkS_ite {c : Prop} [Decidable c] {r t : Res Fl} : OkS (if c then r else t) N R B C ↔ if c then OkS r N R B C else OkS t N R B C := by
  split <;> rfl
@[simp] theorem OkS_then : OkS (sThen f k s h) N R B C ↔ OkS (f s h) (fun s1 h1 => OkS (k s1 h1) N R B C) R B C := by
  unfold sThen
  cases e : f s h with
  | ok fl h1 => cases fl <;> simp [OkS]
  | ex x h1 => simp [OkS]
  | bad => simp [OkS]
@[simp] theorem OkS_nil : OkS (sNil s h) N R B C ↔ N s h := by simp [sNil]
@[simp] theorem OkS_exp : OkS (sExp fa s h) N R B C ↔ Okv (fa s h) fun _ h1 => N s h1 := by simp [sExp]
@[simp] theorem OkS_ret : OkS (sRet fa s h) N R B C ↔ Okv (fa s h) R := by simp [sRet]
@[simp] theorem OkS_retN : OkS (sRetN s h) N R B C ↔ R .non h := by simp [sRetN]
@[simp] theorem OkS_brk : OkS (sBrk s h) N R B C ↔ B s h := by simp [sBrk]
@[simp] theorem OkS_cnt : OkS (sCnt s h) N R B C ↔ C s h := by simp [sCnt]
@[simp] theorem OkS_if : OkS (sIf ft f k s h) N R B C ↔ Okv (ft s h) fun c h1 => if c = true then OkS (f s h1) N R B C else OkS (k s h1) N R B C := by simp [sIf]
@[simp] theorem OkS_asg : OkS (sAsg fa g s h) N R B C ↔ Okv (fa s h) fun v h1 => Okv (g v s h1) fun s1 h2 => N s1 h2 := by simp [sAsg]
@[simp] theorem OkS_par {i j : Nat} : OkS (sPar i j fa fb s h) N R B C ↔ Okv (fa s h) fun v h1 => Okv (fb s h1) fun w h2 => N ((s.set i (some v)).set j (some w)) h2 := by simp [sPar]
theorem OkS.mono {r : Res Fl} {N' B' C' : Sl → Hh → Prop} {R' : D → Hh → Prop} (o : OkS r N R B C) (hN : ∀ s h, N s h → N' s h) (hR : ∀ v h, R v h → R' v h) (hB : ∀ s h, B s h → B' s h) (hC : ∀ s h, C s h → C' s h) : OkS r N' R' B' C' :=
  Okv.mono o fun fl h p => by
    cases fl with
    | nx s => exact hN _ _ p
    | rt v => exact hR _ _ p
    | bk s => exact hB _ _ p
    | ct s => exact hC _ _ p
    | rs e s => exact p
theorem callF_ok {keep : Bool} {n : Nat} {ds : List D} {Q : D → Hh → Prop} (o : OkS (f (startD n ds) h) (fun _ h1 => Okv (fin keep h.length .non h1) Q) (fun v h1 => Okv (fin keep h.length v h1) Q) (fun _ _ => False) fun _ _ => False) : Okv (callF keep f n ds h) Q := by
  unfold callF
  obtain ⟨fl, h1, e, p⟩ := o
  rw [e]
  cases fl with
  | nx s => exact p
  | rt v => exact p
  | bk s => exact p.elim
  | ct s => exact p.elim
  | rs e s => exact p.elim
/-- a loop that keeps I, or returns with R -/
theorem for_ok {im : IM} {xs : List D} {h0 : Hh} (hi : im s h = .ok (xs, none) h0) (I : Nat → Sl → Hh → Prop) (h1 : I 0 s h0)
    (st : ∀ i x s h, xs[i]? = some x → I i s h → Okv (g x s h) fun s1 h1 => OkS (f s1 h1) (I (i + 1)) R (fun s h => N s h) (I (i + 1)))
    (he : ∀ s h, I xs.length s h → N s h) : OkS (sFor im g f s h) N R B C := by
  unfold sFor
  simp only [hi, stE]
  have key : ∀ (l : List D) (i : Nat) (s : Sl) (h : Hh), xs.drop i = l → i ≤ xs.length → I i s h → OkS (forL g f none l s h) N R B C := by
    intro l
    induction l with
    | nil =>
      intro i s h hd hl hI
      have : i = xs.length := by
        have := congrArg List.length hd
        rw [List.length_drop] at this
        simp at this
        omega
      subst this
      have e : forL g f none [] s h = .ok (.nx s) h := by simp [forL, lockOk]
      rw [e]
      exact OkS_nx.mpr (he s h hI)
    | cons x r ih =>
      intro i s h hd hl hI
      have hx : xs[i]? = some x := by
        have := congrArg (fun l => l[0]?) hd
        simpa [List.getElem?_drop] using this
      have hd' : xs.drop (i + 1) = r := by
        have := congrArg (List.drop 1) hd
        rw [List.drop_drop] at this
        simpa [Nat.add_comm] using this
      have hlt : i < xs.length := (List.getElem?_eq_some_iff.mp hx).1
      obtain ⟨s1, h1, e1, o1⟩ := st i x s h hx hI
      have e0 : forL g f none (x :: r) s h = stE (g x s h) s fun s1 h1 => flow (f s1 h1) (forL g f none r) sNil := by simp [forL, lockOk]
      rw [e0]
      simp only [e1, stE]
      obtain ⟨fl, h2, e2, p⟩ := o1
      rw [e2]
      cases fl with
      | nx s2 => exact ih (i + 1) s2 h2 hd' hlt p
      | rt v => simpa [flow, OkS] using p
      | bk s2 => simpa [flow, sNil] using p
      | ct s2 => exact ih (i + 1) s2 h2 hd' hlt p
      | rs e s => exact p.elim
  exact key xs 0 s h0 rfl (Nat.zero_le _) h1
/-- a loop by its test: n turns are enough -/
theorem whl_ok {n : Nat} (I : Nat → Sl → Hh → Prop) (hI : ∃ m, m < n ∧ I m s h)
    (st : ∀ m s h, I m s h → Okv (ft s h) fun c h1 => if c = true then OkS (f s h1) (fun s h => ∃ m', m' < m ∧ I m' s h) R (fun s h => N s h) (fun s h => ∃ m', m' < m ∧ I m' s h) else N s h1) : OkS (whL ft f n s h) N R B C := by
  induction n generalizing s h with
  | zero => obtain ⟨m, hm, _⟩ := hI; exact absurd hm (Nat.not_lt_zero _)
  | succ n ih =>
    obtain ⟨m, hm, hI⟩ := hI
    unfold whL
    obtain ⟨c, h1, e1, o1⟩ := st m s h hI
    simp only [e1, stE]
    cases c with
    | false => simpa using o1
    | true =>
      simp only [if_true] at o1 ⊢
      obtain ⟨fl, h2, e2, p⟩ := o1
      rw [e2]
      cases fl with
      | nx s2 => obtain ⟨m', hm', p⟩ := p; exact ih ⟨m', by omega, p⟩
      | rt v => simpa [flow, OkS] using p
      | bk s2 => simpa [flow, sNil] using p
      | ct s2 => obtain ⟨m', hm', p⟩ := p; exact ih ⟨m', by omega, p⟩
      | rs e s => exact p.elim
end
end TB
namespace TB
open PySem PySem.Spec PyProof.Rows L2
/-- a comprehension by an invariant -/
theorem lc_ok {g : GM} {ft : TM} {fe : EM} {own : List Nat} {s : Sl} {Q : List D → Hh → Prop} (I : Nat → List D → Hh → Prop) : ∀ {xs acc : List D} {h : Hh}, I 0 acc h →
    (∀ i x acc h, xs[i]? = some x → I i acc h → Okv (lcF g ft fe own s x h) fun v h' => I (i + 1) (acc ++ v.toList) h') → (∀ acc h, I xs.length acc h → Q acc h) → Okv (lcL g ft fe own none s xs acc h) Q := by
  intro xs
  induction xs generalizing I with
  | nil =>
    intro acc h h1 st he
    have e : lcL g ft fe own none s [] acc h = .ok acc h := by simp [lcL, lockOk]
    rw [e]
    exact Okv_ok.mpr (he acc h h1)
  | cons x xs ih =>
    intro acc h h1 st he
    obtain ⟨v, h', e, p⟩ := st 0 x acc h rfl h1
    rw [lcL_cons (show lockOk none h from trivial) e]
    exact ih (fun i => I (i + 1)) p (fun i y acc h hy hI => st (i + 1) y acc h (by simpa using hy) hI) fun acc h hI => he acc h hI
/-- a comprehension that changes nothing -/
theorem lc_pure {g : GM} {ft : TM} {fe : EM} {own : List Nat} {s : Sl} {Q : List D → Hh → Prop} {xs acc : List D} {h : Hh} (f : D → Option D) (hx : ∀ x, x ∈ xs → lcF g ft fe own s x h = .ok (f x) h) (q : Q (acc ++ xs.filterMap f) h) : Okv (lcL g ft fe own none s xs acc h) Q := by
  rw [lcL_pure (show lockOk none h from trivial) hx]
  exact Okv_ok.mpr q
end TB
end

section
set_option Elab.async false
set_option linter.all false
set_option maxRecDepth 100000
set_option autoImplicit false
set_option maxHeartbeats 1000000
/-! PO: what the operations give, for simp. -/
namespace TB
open PySem PySem.Spec PyProof.Rows L2
section
variable {α : Type} {x y z u : α} {r : List α} {h : Hh} {i j : Int}
theorem atI_ge {xs : List α} (h0 : 0 ≤ j) : atI xs j = xs[j.toNat]? := by
  unfold atI ixN
  rw [if_pos h0]
  split
  · rfl
  · rename_i h1
    rw [List.getElem?_eq_none (by omega)]; rfl
@[simp] theorem atI_0 : atI (x :: r) 0 = some x := by rw [atI_ge (by decide)]; rfl
@[simp] theorem atI_1 : atI (x :: y :: r) 1 = some y := by rw [atI_ge (by decide)]; rfl
@[simp] theorem atI_2 : atI (x :: y :: z :: r) 2 = some z := by rw [atI_ge (by decide)]; rfl
@[simp] theorem atI_3 : atI (x :: y :: z :: u :: r) 3 = some u := by rw [atI_ge (by decide)]; rfl
@[simp] theorem ixN_0 {n : Nat} : ixN (n + 1) 0 = some 0 := by unfold ixN; rw [if_pos (by decide), if_pos (by omega)]; rfl
@[simp] theorem ixN_1 {n : Nat} : ixN (n + 2) 1 = some 1 := by unfold ixN; rw [if_pos (by decide), if_pos (by omega)]; rfl
@[simp] theorem ixN_2 {n : Nat} : ixN (n + 3) 2 = some 2 := by unfold ixN; rw [if_pos (by decide), if_pos (by omega)]; rfl
@[simp] theorem ixN_3 {n : Nat} : ixN (n + 4) 3 = some 3 := by unfold ixN; rw [if_pos (by decide), if_pos (by omega)]; rfl
@[simp] theorem eq_int : eqOp (.int i) (.int j) h = .ok (.bl (i == j)) h := by simp [eqOp, rdD, okD, plain, dep, eqv]
@[simp] theorem ne_int : neOp (.int i) (.int j) h = .ok (.bl (!(i == j))) h := by simp [neOp, rdD, okD, plain, dep, eqv]
@[simp] theorem eq_str {a b : Str} : eqOp (.str a) (.str b) h = .ok (.bl (a == b)) h := by simp [eqOp, rdD, okD, plain, dep, eqv]
@[simp] theorem ne_str {a b : Str} : neOp (.str a) (.str b) h = .ok (.bl (!(a == b))) h := by simp [neOp, rdD, okD, plain, dep, eqv]
@[simp] theorem eq_bl {a b : Bool} : eqOp (.bl a) (.bl b) h = .ok (.bl (a == b)) h := by simp [eqOp, rdD, okD, plain, dep, eqv]
@[simp] theorem ne_bl {a b : Bool} : neOp (.bl a) (.bl b) h = .ok (.bl (!(a == b))) h := by simp [neOp, rdD, okD, plain, dep, eqv]
@[simp] theorem lt_int : ltOp (.int i) (.int j) h = .ok (.bl (decide (i < j))) h := by simp [ltOp, cmpOp]
@[simp] theorem le_int : leOp (.int i) (.int j) h = .ok (.bl (decide (i ≤ j))) h := by simp [leOp, cmpOp]
@[simp] theorem gt_int : gtOp (.int i) (.int j) h = .ok (.bl (decide (j < i))) h := by simp [gtOp, cmpOp]
@[simp] theorem ge_int : geOp (.int i) (.int j) h = .ok (.bl (decide (j ≤ i))) h := by simp [geOp, cmpOp]
@[simp] theorem add_int {hp : Bool} : addOp hp (.int i) (.int j) h = .ok (.int (i + j)) h := by simp [addOp]
@[simp] theorem sub_int : subOp (.int i) (.int j) h = .ok (.int (i - j)) h := by simp [subOp, int2]
@[simp] theorem add_str {hp : Bool} {a b : Str} : addOp hp (.str a) (.str b) h = if a.length + b.length ≤ sizeLine then .ok (.str (a ++ b)) h else .bad := by simp [addOp]
@[simp] theorem add_tup {hp : Bool} {a b : List D} : addOp hp (.tup a) (.tup b) h = if a.length + b.length ≤ sizeLine then .ok (.tup (a ++ b)) h else .bad := by simp [addOp]
@[simp] theorem add_lst {a b : List D} : addOp false (.lst a) (.lst b) h = if a.length + b.length ≤ sizeLine then .ok (.lst (a ++ b)) h else .bad := by simp [addOp, lsOf, mkL]
@[simp] theorem mul_int : mulOp (.int i) (.int j) h = if cMul i j = true then .ok (.int (i * j)) h else .bad := by simp [mulOp, int2c]
@[simp] theorem mod_int : modOp (.int i) (.int j) h = if 0 < j then .ok (.int (i % j)) h else .bad := by simp [modOp, int2c, cMod]
@[simp] theorem fdiv_int : fdivOp (.int i) (.int j) h = if 0 < j ∧ j < 1073741824 then .ok (.int (i / j)) h else .bad := by simp [fdivOp, int2c, cDiv]
@[simp] theorem pow_int : powOp (.int i) (.int j) h = if cPow i j = true then .ok (.int (i ^ j.toNat)) h else .bad := by simp [powOp, int2c]
@[simp] theorem ix_lst {xs : List D} : ixOp (.lst xs) (.int j) h = match atI xs j with
  | some v => .ok v h
  | none => .bad := by simp [ixOp, sqOf, lsOf] <;> rfl
@[simp] theorem ix_tup {xs : List D} : ixOp (.tup xs) (.int j) h = match atI xs j with
  | some v => .ok v h
  | none => .bad := by simp [ixOp, sqOf] <;> rfl
@[simp] theorem ix_ref0 {xs : List D} {rest : Hh} : ixOp (.ref 0) (.int j) (.lst xs :: rest) = match atI xs j with
  | some v => .ok v (.lst xs :: rest)
  | none => .bad := by simp [ixOp, sqOf, lsOf] <;> rfl
@[simp] theorem len_lst {xs : List D} : lenOp [.lst xs] h = .ok (.int xs.length) h := by simp [lenOp, lenN, sqOf, lsOf]
@[simp] theorem len_tup {xs : List D} : lenOp [.tup xs] h = .ok (.int xs.length) h := by simp [lenOp, lenN, sqOf]
@[simp] theorem int_int : TB.intOp [.int i] h = .ok (.int i) h := by simp [TB.intOp]
@[simp] theorem tuple_tup {xs : List D} : tupleOp [.tup xs] h = .ok (.tup xs) h := by simp [tupleOp]
@[simp] theorem tuple_lst {xs : List D} : tupleOp [.lst xs] h = .ok (.tup xs) h := by simp [tupleOp, lsOf]
@[simp] theorem tru_bl {b : Bool} : truOp (.bl b) h = .ok b h := by simp [truOp]
@[simp] theorem gN_ok {n : Nat} {d : D} {s : Sl} : gN n d s h = .ok (s.set n (some d)) h := rfl
@[simp] theorem tup_ok {xs : List D} : tupOp xs h = if xs.length ≤ 1000 then .ok (.tup xs) h else .bad := by simp [tupOp, mkT]
@[simp] theorem lst_ok {xs : List D} : lstOp false xs h = if xs.length ≤ 1000 then .ok (.lst xs) h else .bad := by simp [lstOp, mkL]
@[simp] theorem set_ref0 {xs : List D} {v : D} {rest : Hh} : setOp (.ref 0) (.int j) v (.lst xs :: rest) = match ixN xs.length j with
  | some k => .ok () (.lst (xs.set k v) :: rest)
  | none => .bad := by simp [setOp] <;> rfl
@[simp] theorem setA_ref0 {xs : List D} {v : D} {rest : Hh} : setAOp (.ref 0) (.int j) v (.lst xs :: rest) = match ixN xs.length j with
  | some k => .ok () (.lst (xs.set k v) :: rest)
  | none => .bad := by simp [setAOp] <;> rfl
theorem lows_map {α : Type} (k : Nat) {f : α → D} (hf : ∀ a, low k (f a) = true) : ∀ l : List α, lows k (l.map f) = true
  | [] => rfl
  | n :: r => by simp [lows, hf, lows_map k hf r]
@[simp] theorem lows_ints (k : Nat) (ns : List Int) : lows k (ns.map D.int) = true := lows_map k (fun _ => rfl) ns
@[simp] theorem lows_strs (k : Nat) (ns : List Str) : lows k (ns.map D.str) = true := lows_map k (fun _ => rfl) ns
end
end TB
end

section
set_option Elab.async false
set_option linter.all false
set_option maxRecDepth 100000
set_option autoImplicit false
set_option maxHeartbeats 2000000
/-! PQ1: draws, data, calls with data: for all laws. -/
namespace TB
open PySem PySem.Spec PyProof.Rows L2
noncomputable def gDraws : SM := (sRet (mApp (lstOp true) (mCons (mApp (listOp1 false) (mCons (mV 0) mNil)) (mCons (mC (.int 0)) (mCons (mC (.int 0)) (mCons (mC (.int 1)) mNil))))))
noncomputable def FDraws : FM := callF true gDraws 1
noncomputable def gDraw : SM := (sThen (sIf (mAnd (mB (m2 eqOp (m2 ixOp (mV 0) (mC (.int 2))) (mC (.int 0)))) (mB (m2 ltOp (m2 ixOp (mV 0) (mC (.int 1))) (mApp lenOp (mCons (m2 ixOp (mV 0) (mC (.int 0))) mNil))))) (sThen (sAsg (m2 ixOp (m2 ixOp (mV 0) (mC (.int 0))) (m2 ixOp (mV 0) (mC (.int 1)))) (gN 2))
    (sThen (sAsg (m2 (addOp false) (m2 ixOp (mV 0) (mC (.int 1))) (mC (.int 1))) (gSetA (mV 0) (mC (.int 1))))
    (sThen (sIf (mB (m2 geOp (mV 2) (m2 powOp (mC (.int 10)) (mC (.int 18))))) (sAsg (mV 2) (gSetA (mV 0) (mC (.int 2)))) sNil)
    (sAsg (m2 modOp (mApp intOp (mCons (m2 (addOp false) (m2 (addOp false) (m2 mulAOp (m2 ixOp (mV 0) (mC (.int 3))) (mC (.int 48271))) (mV 2)) (mC (.int 13))) mNil)) (mC (.int 2147483647))) (gSetA (mV 0) (mC (.int 3))))))) sNil)
    (sThen (sIf (mB (m2 gtOp (m2 ixOp (mV 0) (mC (.int 2))) (mC (.int 0)))) (sThen (sAsg (m2 modOp (mApp intOp (mCons (m2 ixOp (mV 0) (mC (.int 2))) mNil)) (mV 1)) (gN 3))
    (sThen (sAsg (m2 fdivOp (m2 ixOp (mV 0) (mC (.int 2))) (mV 1)) (gSetA (mV 0) (mC (.int 2))))
    (sRet (mV 3)))) sNil)
    (sThen (sAsg (m2 modOp (mApp intOp (mCons (m2 (addOp false) (m2 mulAOp (m2 ixOp (mV 0) (mC (.int 3))) (mC (.int 69621))) (mC (.int 7))) mNil)) (mC (.int 2147483629))) (gSetA (mV 0) (mC (.int 3))))
    (sRet (m2 modOp (mApp intOp (mCons (m2 fdivOp (m2 ixOp (mV 0) (mC (.int 3))) (mC (.int 11))) mNil)) (mV 1))))))
noncomputable def FDraw : FM := callF false gDraw 4
noncomputable def gPick : SM := (sRet (m2 ixOp (mV 1) (mCall FDraw (mCons (mV 0) (mCons (mApp lenOp (mCons (mV 1) mNil)) mNil)))))
noncomputable def FPick : FM := callF false gPick 2
/-- the cell of what is drawn -/
def DrOk (o : Ob) : Prop := ∃ (sc : List Int) (a b c : Int), o = .lst [.lst (sc.map .int), .int a, .int b, .int c] ∧ 0 ≤ a ∧ a ≤ (sc.length : Int)
theorem DrOk.low {o : Ob} (h : DrOk o) : obLow 0 o = true := by
  obtain ⟨sc, a, b, c, rfl, _⟩ := h
  simp [obLow, lows, TB.low]
theorem draw_body {o : Ob} {l : Int} (ho : DrOk o) (hl : 0 < l) (hl2 : l < 1073741824) : Okv (FDraw [.ref 0, .int l] [o]) fun v h => ∃ i o', v = .int i ∧ h = [o'] ∧ DrOk o' ∧ 0 ≤ i ∧ i < l := by
  obtain ⟨sc, a, b, c, rfl, ha, ha2⟩ := ho
  unfold FDraw
  refine callF_ok ?_
  unfold gDraw startD
  have hp : cPow 10 18 = true := by decide
  have hA : ∀ (x y : Int) (h : Hh), mulAOp (.int x) (.int y) h = mulOp (.int x) (.int y) h := fun _ _ _ => rfl
  have hm1 : ∀ c, cMul c 48271 = true := fun c => by simp [cMul]
  have hm2 : ∀ c, cMul c 69621 = true := fun c => by simp [cMul]
  have mk : ∀ a b c : Int, 0 ≤ a → a ≤ (sc.length : Int) → DrOk (Ob.lst [D.lst (List.map D.int sc), D.int a, D.int b, D.int c]) := fun a b c h1 h2 => ⟨sc, a, b, c, rfl, h1, h2⟩
  have ml : ∀ x : Int, 0 ≤ x % l := fun x => Int.emod_nonneg x (by omega)
  have ml2 : ∀ x : Int, x % l < l := fun x => Int.emod_lt_of_pos x hl
  by_cases hb : b = 0 ∧ a < (sc.length : Int)
  · have hx : atI (List.map D.int sc) a = some (.int (sc[a.toNat]'(by omega))) := by
      rw [atI_ge ha, List.getElem?_map, List.getElem?_eq_getElem (by omega)] <;> rfl
    have h1 := mk (a + 1) 
    simp [mAnd, hA, mB, m2, mV, mC, mApp, mCons, mNil, gSetA, hp, hm1, hm2, hl, hl2, fin, frzD, obLow, lows, TB.low, hb.1, hb.2, hx, ml, ml2]
    have e1 : 0 ≤ a + 1 := by omega
    have e2 : a + 1 ≤ (sc.length : Int) := by omega
    split
    · split <;> exact mk _ _ _ e1 e2
    · exact mk _ _ _ e1 e2
  · simp [mAnd, hA, mB, m2, mV, mC, mApp, mCons, mNil, gSetA, hp, hm1, hm2, hl, hl2, fin, frzD, obLow, lows, TB.low, ml, ml2]
    have h2 : ∀ P Q : Prop, Q → (if b = 0 then (if a < (sc.length : Int) then P else Q) else Q) := fun P Q q => by
      split
      · split
        · rename_i h3 h4; exact absurd ⟨h3, h4⟩ hb
        · exact q
      · exact q
    refine h2 _ _ ?_
    split <;> exact mk _ _ _ ha ha2
theorem draw_ok {o : Ob} {rest : Hh} {l : Int} (ho : DrOk o) (hl : 0 < l) (hl2 : l < 1073741824) : ∃ i o', callOp FDraw [.ref 0, .int l] (o :: rest) = .ok (.int i) (o' :: rest) ∧ DrOk o' ∧ 0 ≤ i ∧ i < l := by
  obtain ⟨v, h, e, i, o', rfl, rfl, ho', h1, h2⟩ := draw_body ho hl hl2
  refine ⟨i, o', ?_, ho', h1, h2⟩
  simp [callOp, refsOf, argLow, getC, renD, e, ho.low, ho'.low, outC, putC, TB.low]
theorem cut_map {α β : Type} (f : α → β) (l : List α) (lo hi : Option Int) : TB.cutD (l.map f) lo hi = (TB.cutD l lo hi).map f := by
  unfold TB.cutD
  rw [List.length_map, List.map_take, List.map_drop]
theorem cut_take {α : Type} {l : List α} {i : Int} (h : 0 ≤ i) : TB.cutD l none (some i) = l.take i.toNat := by
  unfold TB.cutD
  have : HT.sIx l.length l.length (some i) = min i.toNat l.length := by
    show (if i < 0 then (i + (l.length : Int)).toNat else min i.toNat l.length) = _
    rw [if_neg (by omega)]
  rw [this, HT.sIx_none, Nat.sub_zero, List.drop_zero]
  by_cases hk : i.toNat ≤ l.length
  · rw [Nat.min_eq_left hk]
  · rw [Nat.min_eq_right (by omega), List.take_of_length_le (Nat.le_refl _), List.take_of_length_le (by omega)]
theorem DrOk.lowk {o : Ob} (h : DrOk o) (k : Nat) : obLow k o = true := by
  obtain ⟨sc, a, b, c, rfl, _⟩ := h
  simp [obLow, lows, TB.low]
/-- a call that is handed what is drawn -/
theorem call_dr {F : FM} {ds : List D} {o o' : Ob} {rest : Hh} {v : D} (h1 : refsOf ds = []) (h2 : argLow ds = true) (h3 : renD 1 ds = ds) (ho : DrOk o) (ho' : DrOk o') (e : F (.ref 0 :: ds) [o] = .ok v [o']) (hv : low 0 v = true) (hn : ∀ n, v ≠ .ref n) : callOp F (.ref 0 :: ds) (o :: rest) = .ok v (o' :: rest) := by
  have e1 : outC (rest.length + 1) 1 v (o' :: rest) = .ok v (o' :: rest) := by
    unfold outC
    cases v <;> first | exact absurd rfl (hn _) | simp [hv]
  simp [callOp, refsOf, argLow, getC, renD, h1, h2, h3, e, ho.low, ho'.low, putC, e1]
theorem draw_okv {o : Ob} {rest : Hh} {l : Int} {Q : D → Hh → Prop} (ho : DrOk o) (hl : 0 < l) (hl2 : l < 1073741824) (q : ∀ i o', DrOk o' → 0 ≤ i → i < l → Q (.int i) (o' :: rest)) : Okv (callOp FDraw [.ref 0, .int l] (o :: rest)) Q := by
  obtain ⟨i, o', e, h1, h2, h3⟩ := draw_ok (rest := rest) ho hl hl2
  rw [e]
  exact Okv_ok.mpr (q i o' h1 h2 h3)
theorem take_succ {α : Type} {l : List α} {i : Nat} {x : α} (h : l[i]? = some x) : l.take (i + 1) = l.take i ++ [x] := by
  rw [List.take_add_one, h]; rfl
theorem call_pure {F : FM} {ds : List D} {h : Hh} {v : D} (h1 : refsOf ds = []) (h2 : argLow ds = true) (h3 : renD 0 ds = ds) (e : F ds [] = .ok v []) (hv : low 0 v = true) (hn : ∀ n, v ≠ .ref n) : callOp F ds h = .ok v h := by
  unfold callOp
  rw [h1]
  simp only [List.nodup_nil, h2, and_self, if_true, getC, List.all_nil, h3, e, List.length_nil, Nat.zero_le, List.take_nil, putC, List.drop_nil, List.append_nil, outC]
  cases v <;> first | exact absurd rfl (hn _) | simp [hv]
theorem lc_map {α : Type} {g : GM} {ft : TM} {fe : EM} {own : List Nat} {s : Sl} {Q : List D → Hh → Prop} {h : Hh} {l : List α} {e : α → D} (f : α → Option D) (hx : ∀ a, a ∈ l → lcF g ft fe own s (e a) h = .ok (f a) h) (q : Q (l.filterMap f) h) : Okv (lcL g ft fe own none s (l.map e) [] h) Q := by
  refine lc_ok (fun i acc h' => acc = (l.take i).filterMap f ∧ h' = h) ⟨by simp, rfl⟩ ?_ ?_
  · rintro i x acc h' hx' ⟨rfl, rfl⟩
    rw [List.getElem?_map] at hx'
    cases ha : l[i]? with
    | none => rw [ha] at hx'; cases hx'
    | some a =>
      rw [ha] at hx'
      cases hx'
      rw [hx a (List.mem_of_getElem? ha), take_succ ha, List.filterMap_append]
      simp only [Okv_ok]
      refine ⟨?_, trivial⟩
      cases e2 : f a <;> simp [e2]
  · rintro acc h' ⟨rfl, rfl⟩
    rw [List.length_map, List.take_length]
    exact q
theorem lcL_map {α : Type} {g : GM} {ft : TM} {fe : EM} {own : List Nat} {s : Sl} {h : Hh} {e : α → D} {f : α → Option D} : ∀ {l : List α} {acc : List D}, (∀ a, a ∈ l → lcF g ft fe own s (e a) h = .ok (f a) h) → lcL g ft fe own none s (l.map e) acc h = .ok (acc ++ l.filterMap f) h
  | [], acc, _ => by simp [lcL, lockOk]
  | a :: l, acc, hx => by
    rw [List.map_cons, lcL_cons (show lockOk none h from trivial) (hx a List.mem_cons_self), lcL_map fun b hb => hx b (List.mem_cons_of_mem _ hb)]
    cases e2 : f a <;> simp [List.filterMap_cons, e2]
/-- a comprehension over data that changes nothing -/
theorem mLc_map {α : Type} {im : IM} {g : GM} {ft : TM} {fe : EM} {own : List Nat} {s : Sl} {h : Hh} {e : α → D} {f : α → Option D} {l : List α} (hi : im s h = .ok (l.map e, none) h) (hx : ∀ a, a ∈ l → lcF g ft fe own s (e a) h = .ok (f a) h) : mLc false im g ft fe own s h = .ok (.lst (l.filterMap f)) h := by
  unfold mLc
  rw [hi]
  simp only [Res.bind_ok]
  rw [lcL_map hx]
  simp [mkL]
theorem fm_if {α : Type} {l : List α} {p : α → Bool} {e : α → D} : l.filterMap (fun a => if p a = true then some (e a) else none) = (l.filter p).map e := by
  induction l with
  | nil => rfl
  | cons a l ih =>
    simp only [List.filterMap_cons, List.filter_cons]
    cases p a <;> simp [ih]
theorem fm_all {α : Type} {l : List α} {e : α → D} : l.filterMap (fun a => some (e a)) = l.map e := by
  induction l with
  | nil => rfl
  | cons a l ih => simp
/-! ### data, not deep -/
inductive Pv : Nat → D → Prop
  | non (k : Nat) : Pv k .non
  | bl (k : Nat) (b : Bool) : Pv k (.bl b)
  | int (k : Nat) (i : Int) : Pv k (.int i)
  | str (k : Nat) (x : Str) : Pv k (.str x)
  | tup (k : Nat) (xs : List D) (h : ∀ x, x ∈ xs → Pv k x) : Pv (k + 1) (.tup xs)
  | lst (k : Nat) (xs : List D) (h : ∀ x, x ∈ xs → Pv k x) : Pv (k + 1) (.lst xs)
theorem lows_of {n : Nat} : ∀ {xs : List D}, (∀ x, x ∈ xs → low n x = true) → lows n xs = true
  | [], _ => rfl
  | x :: r, h => by
    simp only [lows, h x List.mem_cons_self, lows_of fun y hy => h y (List.mem_cons_of_mem _ hy), Bool.and_self]
theorem plains_of : ∀ {xs : List D}, (∀ x, x ∈ xs → TB.plain x = true) → plains xs = true
  | [], _ => rfl
  | x :: r, h => by
    simp only [plains, h x List.mem_cons_self, plains_of fun y hy => h y (List.mem_cons_of_mem _ hy), Bool.and_self]
theorem deps_of {k : Nat} : ∀ {xs : List D}, (∀ x, x ∈ xs → dep x ≤ k) → deps xs ≤ k
  | [], _ => by simp [deps]
  | x :: r, h => by
    have h1 := h x List.mem_cons_self
    have h2 := deps_of (k := k) (xs := r) fun y hy => h y (List.mem_cons_of_mem _ hy)
    simp only [deps]
    omega
theorem frzs_of {n : Nat} {h : Hh} : ∀ {xs : List D}, (∀ x, x ∈ xs → frzD n h x = some x) → frzDs n h xs = some xs
  | [], _ => rfl
  | x :: r, q => by simp only [frzDs, q x List.mem_cons_self, frzs_of fun y hy => q y (List.mem_cons_of_mem _ hy)]
theorem Pv.low {k : Nat} {d : D} (h : Pv k d) (n : Nat) : TB.low n d = true := by
  induction h with
  | non | bl | int | str => rfl
  | tup k xs h ih => exact lows_of ih
  | lst k xs h ih => exact lows_of ih
theorem Pv.plain {k : Nat} {d : D} (h : Pv k d) : TB.plain d = true := by
  induction h with
  | non | bl | int | str => rfl
  | tup k xs h ih => exact plains_of ih
  | lst k xs h ih => exact plains_of ih
theorem Pv.dep {k : Nat} {d : D} (h : Pv k d) : TB.dep d ≤ k := by
  induction h with
  | non | bl | int | str => simp [TB.dep]
  | tup k xs h ih => have := deps_of ih; simp only [TB.dep]; omega
  | lst k xs h ih => have := deps_of ih; simp only [TB.dep]; omega
theorem Pv.frz {k : Nat} {d : D} (h : Pv k d) (n : Nat) (hh : Hh) : frzD n hh d = some d := by
  induction h with
  | non | bl | int | str => rfl
  | tup k xs h ih => simp only [frzD, frzs_of ih]
  | lst k xs h ih => simp only [frzD, lows_of fun x hx => (h x hx).low n, if_true]
theorem Pv.mono {k j : Nat} {d : D} (h : Pv k d) (hk : k ≤ j) : Pv j d := by
  induction h generalizing j with
  | non => exact .non _
  | bl => exact .bl _ _
  | int => exact .int _ _
  | str => exact .str _ _
  | tup k xs h ih => cases j with
    | zero => omega
    | succ j => exact .tup _ _ fun x hx => ih x hx (by omega)
  | lst k xs h ih => cases j with
    | zero => omega
    | succ j => exact .lst _ _ fun x hx => ih x hx (by omega)
theorem Pv.ok {k : Nat} {d : D} (h : Pv k d) (hk : k ≤ 60) : okD d = true := by
  have := h.dep
  simp [okD, h.plain]
  omega
theorem Pv.nref {k : Nat} {d : D} (h : Pv k d) : ∀ n, d ≠ .ref n := by cases h <;> exact fun n z => nomatch z
theorem Pv.refs {k : Nat} {d : D} (h : Pv k d) : refsOf [d] = [] := by cases h <;> rfl
theorem pv_refs : ∀ {ds : List D}, (∀ d, d ∈ ds → ∃ k, Pv k d) → refsOf ds = [] ∧ argLow ds = true ∧ ∀ n, renD n ds = ds
  | [], _ => ⟨rfl, rfl, fun _ => rfl⟩
  | d :: ds, h => by
    obtain ⟨h1, h2, h3⟩ := pv_refs (ds := ds) fun e he => h e (List.mem_cons_of_mem _ he)
    obtain ⟨k, p⟩ := h d List.mem_cons_self
    have hl := p.low 0
    cases p <;> simp_all [refsOf, argLow, renD]
/-- a call with data -/
theorem call_pv {F : FM} {ds : List D} {h : Hh} {v : D} {j : Nat} (hd : ∀ d, d ∈ ds → ∃ k, Pv k d) (e : F ds [] = .ok v []) (hv : Pv j v) : callOp F ds h = .ok v h := by
  obtain ⟨h1, h2, h3⟩ := pv_refs hd
  exact call_pure h1 h2 (h3 0) e (hv.low 0) hv.nref
theorem call_dv {F : FM} {ds : List D} {o o' : Ob} {rest : Hh} {v : D} {j : Nat} (hd : ∀ d, d ∈ ds → ∃ k, Pv k d) (ho : DrOk o) (ho' : DrOk o') (e : F (.ref 0 :: ds) [o] = .ok v [o']) (hv : Pv j v) : callOp F (.ref 0 :: ds) (o :: rest) = .ok v (o' :: rest) := by
  obtain ⟨h1, h2, h3⟩ := pv_refs hd
  exact call_dr h1 h2 (h3 1) ho ho' e (hv.low 0) hv.nref
theorem pick_ok {k : Nat} {xs : List D} {o : Ob} {rest : Hh} (ho : DrOk o) (px : ∀ x, x ∈ xs → Pv k x) (h0 : 0 < xs.length) (h1 : xs.length ≤ 1000) : ∃ v o', callOp FPick [.ref 0, .lst xs] (o :: rest) = .ok v (o' :: rest) ∧ DrOk o' ∧ v ∈ xs := by
  have : Okv (FPick [.ref 0, .lst xs] [o]) fun v h => ∃ o', h = [o'] ∧ DrOk o' ∧ v ∈ xs := by
    unfold FPick
    refine callF_ok ?_
    unfold gPick startD
    simp [m2, mCall, mApp, mCons, mNil, mV]
    refine draw_okv ho (by omega) (by omega) fun i o1 ho1 hi0 hi1 => ?_
    have hi : i.toNat < xs.length := by omega
    have e : atI xs i = some xs[i.toNat] := by rw [atI_ge hi0, List.getElem?_eq_getElem hi]
    have m : xs[i.toNat] ∈ xs := List.getElem_mem hi
    simp [e, fin, (px _ m).frz, ho1.lowk, ho1]
  obtain ⟨v, h, e, o', rfl, ho', hv⟩ := this
  exact ⟨v, o', call_dv (fun d hd => by simp at hd; subst hd; exact ⟨_, .lst _ _ px⟩) ho ho' e (px v hv), ho', hv⟩
theorem pick_okv {k : Nat} {xs : List D} {o : Ob} {rest : Hh} {Q : D → Hh → Prop} (ho : DrOk o) (px : ∀ x, x ∈ xs → Pv k x) (h0 : 0 < xs.length) (h1 : xs.length ≤ 1000) (q : ∀ v o', DrOk o' → v ∈ xs → Pv k v → Q v (o' :: rest)) : Okv (callOp FPick [.ref 0, .lst xs] (o :: rest)) Q := by
  obtain ⟨v, o', e, ho', hv⟩ := pick_ok (rest := rest) ho px h0 h1
  exact Okv.eq e (q v o' ho' hv (px v hv))
theorem pv_cut {k : Nat} {xs : List D} {a b : Option Int} (h : ∀ x, x ∈ xs → Pv k x) : ∀ x, x ∈ TB.cutD xs a b → Pv k x := fun x hx => h x (by
  unfold TB.cutD at hx
  exact List.mem_of_mem_drop (List.mem_of_mem_take hx))
/-- picks, as many as are drawn -/
theorem picks_lc {P : D → Prop} {fe : EM} {own : List Nat} {s : Sl} {o : Ob} {n : Nat} {i : Nat} {Q : List D → Hh → Prop} (ho : DrOk o)
    (st : ∀ (x : D) (o : Ob), DrOk o → Okv (fe ((wip s own).set i (some x)) [o]) fun v h => P v ∧ ∃ o', h = [o'] ∧ DrOk o') (q : ∀ (ys : List D) o', DrOk o' → ys.length = n → (∀ y, y ∈ ys → P y) → Q ys [o']) (xs : List D) (hn : xs.length = n) :
    Okv (lcL (gN i) tYesM fe own none s xs [] [o]) Q := by
  refine lc_ok (fun m acc h => acc.length = m ∧ (∀ y, y ∈ acc → P y) ∧ ∃ o', h = [o'] ∧ DrOk o') ⟨rfl, (fun y hy => by simp at hy), o, rfl, ho⟩ ?_ ?_
  · rintro m x acc h hx ⟨hl, hp, o', rfl, ho'⟩
    obtain ⟨v, h', e, pv, o2, rfl, ho2⟩ := st x o' ho'
    have : lcF (gN i) tYesM fe own s x [o'] = .ok (some v) [o2] := by simp [lcF, bnd, tYesM, e]
    refine Okv.eq this ⟨by simp [hl], fun y hy => ?_, o2, rfl, ho2⟩
    simp at hy
    rcases hy with hy | rfl
    · exact hp y hy
    · exact pv
  · rintro acc h ⟨hl, hp, o', rfl, ho'⟩
    exact q acc o' ho' (by rw [hl, hn]) hp
@[simp] theorem rng_n {n : Nat} {h : Hh} : rngOp [.int n] h = if (n : Int) ≤ 16777216 then .ok (rngD 0 n, none) h else .bad := by simp [rngOp]
@[simp] theorem rngD_len (n : Nat) : (rngD 0 n).length = n := by simp [rngD]
theorem rngD_get {n i : Nat} {x : D} (h : (rngD 0 n)[i]? = some x) : i < n ∧ x = .int i := by
  have hl := (List.getElem?_eq_some_iff.mp h).1
  rw [rngD_len] at hl
  refine ⟨hl, ?_⟩
  simp [rngD, hl] at h
  exact h.symm
def bll (cs : List Bool) : List D := cs.map D.bl
theorem bols_bll : ∀ bs : List Bool, bolsOf (bll bs) = some bs
  | [] => rfl
  | b :: r => by
    have := bols_bll r
    simp only [bll, List.map_cons, bolsOf] at this ⊢
    rw [this]; rfl
@[simp] theorem all_bll (bs : List Bool) (h : Hh) : allOp [.lst (bll bs)] h = .ok (.bl (bs.all id)) h := by
  simp [allOp, lsBols, lsOf, bols_bll]
theorem valD_put {ks : List (Key × D)} {k k' : Key} {v : D} (h : valD ks k = none) : valD (putD ks k v) k' = if k' = k then some v else valD ks k' := by
  unfold valD at h
  have hn : ks.find? (fun kv => decide (kv.1 = k)) = none := by
    cases e : ks.find? (fun kv => decide (kv.1 = k)) with
    | none => rfl
    | some x => rw [e] at h; cases h
  have ha : (ks.any fun kv => decide (kv.1 = k)) = false := by
    rw [Bool.eq_false_iff]
    intro z
    obtain ⟨x, h1, h2⟩ := List.any_eq_true.mp z
    exact absurd h2 (by simpa using List.find?_eq_none.mp hn x h1)
  unfold putD
  rw [ha, if_neg (by simp)]
  unfold valD
  rw [List.find?_append]
  by_cases e : k' = k
  · subst e
    rw [hn, if_pos rfl]
    simp
  · rw [if_neg e]
    cases e2 : ks.find? (fun kv => decide (kv.1 = k')) with
    | some x => simp
    | none => simp [Ne.symm e]

theorem draws_ok (ns : List Int) : ∃ o, callOp FDraws [.scr ns] [] = .ok (.ref 0) [o] ∧ DrOk o := by
  refine ⟨.lst [.lst (ns.map .int), .int 0, .int 0, .int 1], ?_, ⟨ns, 0, 0, 1, rfl, by decide, by omega⟩⟩
  simp [callOp, refsOf, argLow, getC, renD, putC, outC, FDraws, callF, gDraws, startD, sRet, mApp, mCons, mNil, mV, mC, lstOp, listOp1, mkL, stE, fin, obLow, lows, TB.low, Res.bind]
theorem one_pv {k : Nat} {d : D} (p : Pv k d) : ∀ x, x ∈ [d] → ∃ k, Pv k x := fun x hx => by simp at hx; subst hx; exact ⟨k, p⟩
end TB
end

section
set_option Elab.async false
set_option linter.all false
set_option maxRecDepth 100000
set_option autoImplicit false
set_option maxHeartbeats 2000000
/-! PQ2: values that are ints or texts, their order, sorting by keys. -/
namespace TB
open PySem PySem.Spec PyProof.Rows L2
theorem Okv.is {r : Res D} {v : D} {h : Hh} (o : Okv r fun a b => a = v ∧ b = h) : r = .ok v h := by
  obtain ⟨a, b, e, rfl, rfl⟩ := o
  exact e
@[simp] theorem mulA_int {x y : Int} {h : Hh} : mulAOp (.int x) (.int y) h = mulOp (.int x) (.int y) h := rfl
theorem eq_dec {α : Type} [DecidableEq α] (a b : α) : (a == b) = decide (a = b) := by by_cases q : a = b <;> simp [q]
/-! ### keys as values -/
theorem key_pv (v : Key) (k : Nat) : Pv k (keyD v) := by cases v <;> first | exact .int _ _ | exact .str _ _
@[simp] theorem keyOf_keyD (v : Key) : keyOf (keyD v) = some v := by cases v <;> rfl
theorem ev_key (a b : Key) : eqv (keyD a) (keyD b) = decide (a = b) := by cases a <;> cases b <;> simp [keyD, eqv, eq_dec]
theorem evs_key : ∀ a b : List Key, eqvs (a.map keyD) (b.map keyD) = decide (a = b)
  | [], [] => by simp [eqvs]
  | [], y :: b => by simp [eqvs]
  | x :: a, [] => by simp [eqvs]
  | x :: a, y :: b => by
    simp only [List.map_cons, eqvs, ev_key, evs_key a b]
    by_cases h1 : x = y <;> by_cases h2 : a = b <;> simp [h1, h2]
theorem keyD_inj {a b : Key} (h : keyD a = keyD b) : a = b := by cases a <;> cases b <;> simp [keyD] at h <;> rw [h]
def memB {α : Type} [DecidableEq α] (x : α) (l : List α) : Bool := decide (x ∈ l)
@[simp] theorem memB_true {α : Type} [DecidableEq α] {x : α} {l : List α} : memB x l = true ↔ x ∈ l := by simp [memB]
@[simp] theorem memB_false {α : Type} [DecidableEq α] {x : α} {l : List α} : memB x l = false ↔ x ∉ l := by simp [memB]
/-- == of data: e has eqv as its equality -/
structure Eqv {α : Type} [DecidableEq α] (e : α → D) : Prop where
  ev : ∀ a b, eqv (e a) (e b) = decide (a = b)
  pv : ∀ a, Pv 20 (e a)
theorem key_eqv : Eqv keyD := ⟨ev_key, fun a => key_pv a 20⟩
section
variable {α : Type} [DecidableEq α] {e : α → D}
theorem Eqv.rd (_ : Eqv e) {d : D} {k : Nat} (p : Pv k d) (h : Hh) : rdD h d = d := by cases p <;> rfl
theorem Eqv.eq (E : Eqv e) (a b : α) (h : Hh) : eqOp (e a) (e b) h = .ok (.bl (decide (a = b))) h := by
  unfold eqOp
  rw [E.rd (E.pv a), E.rd (E.pv b), (E.pv a).ok (by decide), (E.pv b).ok (by decide), E.ev]
  rfl
theorem Eqv.ne (E : Eqv e) (a b : α) (h : Hh) : neOp (e a) (e b) h = .ok (.bl (!decide (a = b))) h := by
  unfold neOp
  rw [E.rd (E.pv a), E.rd (E.pv b), (E.pv a).ok (by decide), (E.pv b).ok (by decide), E.ev]
  rfl
theorem Eqv.any (E : Eqv e) (x : α) : ∀ l : List α, (l.map e).any (fun z => eqv z (e x)) = memB x l
  | [] => by simp [memB]
  | y :: r => by
    simp only [List.map_cons, List.any_cons, E.any x r, E.ev, memB, List.mem_cons]
    by_cases h : y = x
    · subst h; simp
    · simp [h, Ne.symm h]
theorem Eqv.oks (E : Eqv e) (l : List α) : okDs (l.map e) = true := by
  have h1 : plains (l.map e) = true := plains_of fun x hx => by
    obtain ⟨a, _, rfl⟩ := List.mem_map.mp hx
    exact (E.pv a).plain
  have h2 : deps (l.map e) ≤ 20 := deps_of fun x hx => by
    obtain ⟨a, _, rfl⟩ := List.mem_map.mp hx
    exact (E.pv a).dep
  simp [okDs, h1]
  omega
theorem Eqv.in_ (E : Eqv e) {neg : Bool} {x : α} {c : D} {l : List α} {h : Hh} (hc : sqOf h c = some (l.map e)) : inOp neg (e x) c h = .ok (.bl (neg != memB x l)) h := by
  simp [inOp, hc, E.oks, (E.pv x).ok (by decide), E.any]
theorem Eqv.evs (E : Eqv e) : ∀ a b : List α, eqvs (a.map e) (b.map e) = decide (a = b)
  | [], [] => by simp [eqvs]
  | [], y :: b => by simp [eqvs]
  | x :: a, [] => by simp [eqvs]
  | x :: a, y :: b => by
    simp only [List.map_cons, eqvs, E.ev, E.evs a b]
    by_cases h1 : x = y <;> by_cases h2 : a = b <;> simp [h1, h2]
theorem Eqv.find (E : Eqv e) {x : α} : ∀ {l : List α}, x ∈ l → findD (e x) (l.map e) = some (l.idxOf x)
  | y :: r, hx => by
    simp only [List.map_cons, findD, E.ev]
    by_cases h : y = x
    · subst h; simp
    · have hr : x ∈ r := (List.mem_cons.mp hx).resolve_left fun z => h z.symm
      simp [h, E.find hr, List.idxOf_cons]
      have : ¬ (y == x) = true := by simpa using h
      simp [this]
end
theorem evs_app {α : Type} [DecidableEq α] {e : α → D} (E : Eqv e) {a b : α} {xs ys : List α} : True := trivial
/-! ### sorting by keys -/
theorem sort_perm_eq {α : Type} {r : α → α → Bool} (t : W.TotalLe r) (anti : ∀ a b, r a b = true → r b a = true → a = b) {l m : List α} (p : l.Perm m) : l.mergeSort r = m.mergeSort r := by
  refine W.sort_unique t (W.sort_pairwise t _) fun c => ?_
  rw [W.sort_stable t]
  refine all_one (p.filter _) fun x hx y hy => ?_
  obtain ⟨hx1, hx2⟩ := List.mem_filter.mp hx
  obtain ⟨hy1, hy2⟩ := List.mem_filter.mp hy
  unfold W.sameRank at hx2 hy2
  rw [Bool.and_eq_true] at hx2 hy2
  exact (anti x c hx2.2 hx2.1).trans (anti c y hy2.1 hy2.2)
theorem leK_total {α : Type} (ky : α → D) : W.TotalLe (fun a b : α => leD (ky a) (ky b)) := ⟨fun a b c => leD_total.trans _ _ _, fun a b => leD_total.total _ _⟩
/-- F gives the key ky of e -/
structure SortK {α : Type} (e ky : α → D) (F : FM) : Prop where
  call : ∀ a h, callOp F [e a] h = .ok (ky a) h
  ok : ∀ l : List α, srtOk (l.map ky) = true
  anti : ∀ a b, leD (ky a) (ky b) = true → leD (ky b) (ky a) = true → a = b
def srt {α : Type} (ky : α → D) (l : List α) : List α := l.mergeSort fun a b => leD (ky a) (ky b)
section
variable {α : Type} {e ky : α → D} {F : FM}
theorem SortK.keys (S : SortK e ky F) {h : Hh} : ∀ (l : List α) (acc : List D), keysL F (l.map e) acc h = .ok (acc ++ l.map ky) h
  | [], acc => by simp [keysL]
  | f :: l, acc => by
    have ih := S.keys (h := h) l (acc ++ [ky f])
    rw [List.map_cons, keysL, S.call]
    simp only [bnd]
    rw [ih]
    simp
theorem sortKD_srt (l : List α) : sortKD (l.map e) (l.map ky) = (srt ky l).map e := by
  unfold sortKD srt
  have e1 : (l.map e).zip (l.map ky) = l.map fun f => (e f, ky f) := by
    induction l with
    | nil => rfl
    | cons a l ih => simp [ih]
  rw [e1, ← W.sort_maps (r := fun a b => leD (ky a) (ky b)) (fun f : α => (e f, ky f)) fun a _ b _ => rfl, List.map_map]
  rfl
theorem SortK.sorted (S : SortK e ky F) {x : D} {l : List α} {h : Hh} (hc : colOf h x = some (l.map e)) (hp : Bool) : sortKOp hp F [x] h = mkL hp ((srt ky l).map e) h := by
  simp only [sortKOp, hc, S.keys, bnd, List.nil_append, keyedD, S.ok, if_true, sortKD_srt]
theorem SortK.perm (S : SortK e ky F) {l m : List α} (p : l.Perm m) : srt ky l = srt ky m := sort_perm_eq (leK_total ky) S.anti p
theorem srt_perm (ky : α → D) (l : List α) : (srt ky l).Perm l := List.mergeSort_perm _ _
theorem srt_mem (ky : α → D) {l : List α} {a : α} : a ∈ srt ky l ↔ a ∈ l := (srt_perm ky l).mem_iff
theorem srt_len (ky : α → D) (l : List α) : (srt ky l).length = l.length := (srt_perm ky l).length_eq
theorem srt_nodup (ky : α → D) {l : List α} : (srt ky l).Nodup ↔ l.Nodup := (srt_perm ky l).nodup_iff
theorem srt_pair (ky : α → D) (l : List α) : (srt ky l).Pairwise fun a b => leD (ky a) (ky b) = true := W.sort_pairwise (leK_total ky) l
/-- what is in order already stays -/
theorem SortK.id (S : SortK e ky F) {l : List α} (h : l.Pairwise fun a b => leD (ky a) (ky b) = true) : srt ky l = l := by
  unfold srt
  exact List.mergeSort_of_pairwise h
end
theorem perm_mem {α : Type} [DecidableEq α] {l m : List α} (h1 : l.Nodup) (h2 : m.Nodup) (h : ∀ a, a ∈ l ↔ a ∈ m) : l.Perm m := by
  exact (List.perm_ext_iff_of_nodup h1 h2).mpr h
theorem srtOk_of {α : Type} {ky : α → D} (l : List α) (h1 : ∀ a, okD (ky a) = true) (h2 : ∀ a b, W.alike (toPy (ky a)) (toPy (ky b)) = true) (h3 : ∀ a, isTupC (toPy (ky a)) = true) : srtOk (l.map ky) = true := by
  unfold srtOk
  have q1 : (l.map ky).all okD = true := by
    rw [List.all_eq_true]
    intro x hx
    obtain ⟨f, _, rfl⟩ := List.mem_map.mp hx
    exact h1 f
  have q2 : (((l.map ky).map toPy).all fun d => ((l.map ky).map toPy).all fun e => W.alike d e) = true := by
    rw [List.all_eq_true]
    intro d hd
    rw [List.all_eq_true]
    intro e he
    obtain ⟨x, hx, rfl⟩ := List.mem_map.mp hd
    obtain ⟨y, hy, rfl⟩ := List.mem_map.mp he
    obtain ⟨a, _, rfl⟩ := List.mem_map.mp hx
    obtain ⟨b, _, rfl⟩ := List.mem_map.mp hy
    exact h2 a b
  have q3 : ((l.map ky).map toPy).all isTupC = true := by
    rw [List.all_eq_true]
    intro d hd
    obtain ⟨x, hx, rfl⟩ := List.mem_map.mp hd
    obtain ⟨a, _, rfl⟩ := List.mem_map.mp hx
    exact h3 a
  rw [q1, q2, q3]; simp
/-! ### the key of a value -/
noncomputable def gKey : SM := (sRet (mIf (mTru (mApp isiOp (mCons (mV 0) (mCons (mC (.ty "str")) mNil)))) (mApp tupOp (mCons (mC (.int 1)) (mCons (mC (.int 0)) (mCons (mV 0) mNil)))) (mApp tupOp (mCons (mC (.int 0)) (mCons (mV 0) (mCons (mC (.str (Str.ofString ""))) mNil))))))
noncomputable def FKey : FM := callF false gKey 1
def kyD : Key → D
  | .inr s => .tup [.int 1, .int 0, .str s]
  | .inl n => .tup [.int 0, .int n, .str (Str.ofString "")]
theorem kyD_pv (v : Key) : Pv 1 (kyD v) := by
  cases v <;> exact .tup _ _ fun x hx => by
    simp at hx
    rcases hx with rfl | rfl | rfl <;> first | exact .int _ _ | exact .str _ _
theorem FKey_ok (v : Key) : FKey [keyD v] [] = .ok (kyD v) [] := Okv.is (by
  unfold FKey
  refine callF_ok ?_
  unfold gKey startD
  cases v <;> simp [keyD, mIf, mTru, mApp, mCons, mNil, mV, mC, isiOp, kin, tyOf7, TB.isT, kyD, fin, frzD, frzDs])
theorem FKey_call (v : Key) (h : Hh) : callOp FKey [keyD v] h = .ok (kyD v) h :=
  call_pv (fun x hx => by simp at hx; subst hx; exact ⟨_, key_pv v 0⟩) (FKey_ok v) (kyD_pv v)
def ltk : Key → Key → Bool
  | .inl a, .inl b => decide (a < b)
  | .inr a, .inr b => decide (a.cps.toList < b.cps.toList)
  | .inl _, .inr _ => true
  | .inr _, .inl _ => false
theorem alike_k (a b : Key) : W.alike (toPy (kyD a)) (toPy (kyD b)) = true := by
  cases a <;> cases b <;> simp [kyD, toPy, toPys, W.alike, W.alikeAll]
theorem eqv_k (a b : Key) : PyData.eqv (toPy (kyD a)) (toPy (kyD b)) = decide (a = b) := by
  cases a <;> cases b <;> simp [kyD, toPy, toPys, PyData.eqv, PyData.eqvAll, eq_dec]
theorem dlt_k (a b : Key) (h : a ≠ b) : W.dataLt (toPy (kyD a)) (toPy (kyD b)) = ltk a b := by
  cases a with
  | inl m => cases b with
    | inl n =>
      have hn : m ≠ n := fun e => h (by rw [e])
      simp only [kyD, toPy, toPys, W.dataLt_tuple]
      rw [W.dataLt_all_yes (by simp [W.alike]) (by simp [PyData.eqv, PyData.eqvAll]), W.dataLt_all_no (by simp [W.alike]) (by simp [PyData.eqv, hn]), W.dataLt_int]
      rfl
    | inr s =>
      simp only [kyD, toPy, toPys, W.dataLt_tuple]
      rw [W.dataLt_all_no (by simp [W.alike]) (by simp [PyData.eqv, PyData.eqvAll]), W.dataLt_int]
      rfl
  | inr s => cases b with
    | inl n =>
      simp only [kyD, toPy, toPys, W.dataLt_tuple]
      rw [W.dataLt_all_no (by simp [W.alike]) (by simp [PyData.eqv, PyData.eqvAll]), W.dataLt_int]
      rfl
    | inr u =>
      have hn : s ≠ u := fun e => h (by rw [e])
      simp only [kyD, toPy, toPys, W.dataLt_tuple]
      rw [W.dataLt_all_yes (by simp [W.alike]) (by simp [PyData.eqv, PyData.eqvAll]), W.dataLt_all_yes (by simp [W.alike]) (by simp [PyData.eqv, PyData.eqvAll]), W.dataLt_all_no (by simp [W.alike]) (by simp [PyData.eqv, hn]), W.dataLt_str]
      rfl
theorem dlt_k_self (a : Key) : W.dataLt (toPy (kyD a)) (toPy (kyD a)) = false := by
  have h := leD_total.total (kyD a) (kyD a)
  have : leD (kyD a) (kyD a) = true := by simpa using h
  simpa [leD] using this
theorem str_tri {a b : Str} (h : a ≠ b) (h1 : ¬ b.cps.toList < a.cps.toList) : a.cps.toList < b.cps.toList := by
  refine Classical.byContradiction fun h2 => h ?_
  have e1 : leD (.str a) (.str b) = true := by
    simp only [leD, toPy, W.dataLt_str]
    simp [h1]
  have e2 : leD (.str b) (.str a) = true := by
    simp only [leD, toPy, W.dataLt_str]
    simp [h2]
  exact Sum.inr.inj (leD_key (a := .inr a) (b := .inr b) e1 e2 rfl)
theorem ltk_tri {a b : Key} (h : a ≠ b) (h1 : ltk b a = false) : ltk a b = true := by
  cases a <;> cases b <;> simp [ltk] at h1 ⊢
  · rename_i m n
    have : m ≠ n := fun e => h (by rw [e])
    omega
  · rename_i s u
    exact str_tri (fun e => h (by rw [e])) (by simpa using h1)
theorem anti_k (a b : Key) (h1 : leD (kyD a) (kyD b) = true) (h2 : leD (kyD b) (kyD a) = true) : a = b := by
  refine Classical.byContradiction fun h => ?_
  simp only [leD, dlt_k b a (Ne.symm h), dlt_k a b h, Bool.not_eq_true'] at h1 h2
  have := ltk_tri h h1
  rw [this] at h2
  cases h2
theorem key_sort : SortK keyD kyD FKey := ⟨fun a h => FKey_call a h, fun l => srtOk_of l (fun a => (kyD_pv a).ok (by decide)) alike_k (fun a => by cases a <;> simp [kyD, toPy, toPys, isTupC]), anti_k⟩
/-! ### dicts -/
theorem valD_putG {ks : List (Key × D)} {k k' : Key} {v : D} : valD (putD ks k v) k' = if k' = k then some v else valD ks k' := by
  cases h : valD ks k with
  | none => exact valD_put h
  | some u =>
    have ha : (ks.any fun kv => decide (kv.1 = k)) = true := by
      unfold valD at h
      cases e : ks.find? (fun kv => decide (kv.1 = k)) with
      | none => rw [e] at h; cases h
      | some x =>
        exact List.any_eq_true.mpr ⟨x, List.mem_of_find?_eq_some e, List.find?_some (p := fun kv : Key × D => decide (kv.1 = k)) e⟩
    unfold putD
    rw [if_pos ha]
    clear h
    induction ks with
    | nil => simp at ha
    | cons x ks ih =>
      obtain ⟨j, d⟩ := x
      unfold valD at ih ⊢
      simp only [List.map_cons, List.find?_cons]
      by_cases hj : j = k
      · subst hj
        by_cases hk : k' = j
        · subst hk; simp
        · simp only [if_true]
          have : ¬ j = k' := fun z => hk z.symm
          simp only [this, decide_false, if_neg hk]
          by_cases ha2 : (ks.any fun kv => decide (kv.1 = j)) = true
          · have := ih ha2
            rw [if_neg hk] at this
            exact this
          · have e : ks.map (fun kv => if kv.1 = j then (kv.1, v) else kv) = ks := by
              conv => rhs; rw [← List.map_id ks]
              refine List.map_congr_left fun kv hkv => ?_
              have : ¬ kv.1 = j := fun z => ha2 (List.any_eq_true.mpr ⟨kv, hkv, by simpa using z⟩)
              simp [this]
            rw [e]
      · simp only [if_neg hj]
        have ha2 : (ks.any fun kv => decide (kv.1 = k)) = true := by simpa [hj] using ha
        by_cases hk : j = k'
        · subst hk
          simp [hj]
        · simp only [hk, decide_false]
          exact ih ha2
theorem valD_mem {ks : List (Key × D)} {k : Key} {v : D} (h : valD ks k = some v) : (k, v) ∈ ks := by
  unfold valD at h
  obtain ⟨x, e, rfl⟩ := Option.map_eq_some_iff.mp h
  have := List.find?_some (p := fun kv : Key × D => decide (kv.1 = k)) e
  have hk : x.1 = k := by simpa using this
  rw [← hk]
  exact List.mem_of_find?_eq_some e
theorem valD_of {ks : List (Key × D)} (nd : (ks.map (·.1)).Nodup) {k : Key} {v : D} (h : (k, v) ∈ ks) : valD ks k = some v := by
  induction ks with
  | nil => cases h
  | cons x ks ih =>
    rw [List.map_cons, List.nodup_cons] at nd
    unfold valD at ih ⊢
    rcases List.mem_cons.mp h with rfl | h
    · simp
    · have : ¬ x.1 = k := fun z => nd.1 (z ▸ List.mem_map.mpr ⟨_, h, rfl⟩)
      simp only [List.find?_cons, this, decide_false]
      exact ih nd.2 h
theorem valD_none {ks : List (Key × D)} {k : Key} : valD ks k = none ↔ k ∉ ks.map (·.1) := by
  unfold valD
  rw [Option.map_eq_none_iff, List.find?_eq_none]
  constructor
  · intro h z
    obtain ⟨x, hx, rfl⟩ := List.mem_map.mp z
    exact h x hx (by simp)
  · intro h x hx z
    exact h (List.mem_map.mpr ⟨x, hx, by simpa using z⟩)
theorem putD_keys_in {ks : List (Key × D)} {k : Key} {v : D} (h : k ∈ ks.map (·.1)) : (putD ks k v).map (·.1) = ks.map (·.1) := by
  unfold putD
  have ha : (ks.any fun kv => decide (kv.1 = k)) = true := by
    obtain ⟨x, hx, rfl⟩ := List.mem_map.mp h
    exact List.any_eq_true.mpr ⟨x, hx, by simp⟩
  rw [if_pos ha, List.map_map]
  refine List.map_congr_left fun x _ => ?_
  simp only [Function.comp_def]
  split <;> rfl
theorem putD_keys_out {ks : List (Key × D)} {k : Key} {v : D} (h : k ∉ ks.map (·.1)) : putD ks k v = ks ++ [(k, v)] := by
  unfold putD
  have ha : ¬ (ks.any fun kv => decide (kv.1 = k)) = true := fun z => by
    obtain ⟨x, hx, e⟩ := List.any_eq_true.mp z
    exact h (List.mem_map.mpr ⟨x, hx, by simpa using e⟩)
  rw [if_neg ha]
theorem putD_nodup {ks : List (Key × D)} {k : Key} {v : D} (nd : (ks.map (·.1)).Nodup) : ((putD ks k v).map (·.1)).Nodup := by
  by_cases h : k ∈ ks.map (·.1)
  · rw [putD_keys_in h]; exact nd
  · rw [putD_keys_out h, List.map_append]
    exact List.nodup_append.mpr ⟨nd, by simp, fun a ha b hb e => h (by simp at hb; rw [← hb, ← e]; exact ha)⟩
theorem putD_mem {ks : List (Key × D)} {k k' : Key} {v : D} : k' ∈ (putD ks k v).map (·.1) ↔ k' ∈ ks.map (·.1) ∨ k' = k := by
  by_cases h : k ∈ ks.map (·.1)
  · rw [putD_keys_in h]
    exact ⟨.inl, fun z => z.elim id fun e => e ▸ h⟩
  · rw [putD_keys_out h, List.map_append]
    simp
end TB
end

section
set_option Elab.async false
set_option linter.all false
set_option maxRecDepth 100000
set_option autoImplicit false
set_option maxHeartbeats 4000000
/-! PQ3: _law_same. -/
namespace TB
open PySem PySem.Spec PyProof.Rows L2
noncomputable def gSame (Fr : FM) : SM := (sThen (sIf (mOr (mTru (mApp isiOp (mCons (mV 1) (mCons (mC (.ty "tuple")) mNil)))) (mTru (mApp isiOp (mCons (mV 1) (mCons (mC (.ty "list")) mNil))))) (sThen (sIf (mOr (mB (m2 neOp (mApp isiOp (mCons (mV 0) (mCons (mC (.ty "tuple")) mNil))) (mApp isiOp (mCons (mV 1) (mCons (mC (.ty "tuple")) mNil))))) (mB (m2 neOp (mApp isiOp (mCons (mV 0) (mCons (mC (.ty "list")) mNil))) (mApp isiOp (mCons (mV 1) (mCons (mC (.ty "list")) mNil)))))) (sRet (mC (.bl false))) sNil)
    (sThen (sIf (mB (m2 neOp (mApp lenOp (mCons (mV 0) mNil)) (mApp lenOp (mCons (mV 1) mNil)))) (sRet (mC (.bl false))) sNil)
    (sRet (m2 eqOp (mApp lenOp (mCons (mLc false (mRng (mCons (mApp lenOp (mCons (mV 1) mNil)) mNil)) (gN 2) (mNot (mTru (mCall Fr (mCons (m2 ixOp (mV 0) (mV 2)) (mCons (m2 ixOp (mV 1) (mV 2)) mNil))))) (mV 2) [2]) mNil)) (mC (.int 0)))))) sNil)
    (sThen (sIf (mOr (mTru (mApp isiOp (mCons (mV 1) (mCons (mC (.ty "bool")) mNil)))) (mTru (mApp isiOp (mCons (mV 0) (mCons (mC (.ty "bool")) mNil))))) (sRet (mAndV (mApp isiOp (mCons (mV 1) (mCons (mC (.ty "bool")) mNil))) (mAndV (mApp isiOp (mCons (mV 0) (mCons (mC (.ty "bool")) mNil))) (m2 eqOp (mV 0) (mV 1))))) sNil)
    (sThen (sIf (mOr (mB (m2 (isOp false) (mV 1) (mC .non))) (mB (m2 (isOp false) (mV 0) (mC .non)))) (sRet (mAndV (m2 (isOp false) (mV 1) (mC .non)) (m2 (isOp false) (mV 0) (mC .non)))) sNil)
    (sThen (sIf (mOr (mTru (mApp isiOp (mCons (mV 1) (mCons (mC (.ty "str")) mNil)))) (mTru (mApp isiOp (mCons (mV 0) (mCons (mC (.ty "str")) mNil))))) (sRet (mAndV (mApp isiOp (mCons (mV 1) (mCons (mC (.ty "str")) mNil))) (mAndV (mApp isiOp (mCons (mV 0) (mCons (mC (.ty "str")) mNil))) (m2 eqOp (mV 0) (mV 1))))) sNil)
    (sRet (mAndV (mApp isiOp (mCons (mV 0) (mCons (mC (.ty "int")) mNil))) (mAndV (mApp isiOp (mCons (mV 1) (mCons (mC (.ty "int")) mNil))) (m2 eqOp (mV 0) (mV 1)))))))))
noncomputable def FSame : Nat → FM
  | 0 => fun _ _ => .bad
  | k + 1 => callF false (gSame (FSame k)) 3
mutual
def eqD : D → D → Bool
  | .non, .non => true
  | .bl a, .bl b => a == b
  | .int a, .int b => a == b
  | .str a, .str b => a == b
  | .tup a, .tup b => eqDs a b
  | .lst a, .lst b => eqDs a b
  | _, _ => false
def eqDs : List D → List D → Bool
  | [], [] => true
  | x :: a, y :: b => eqD x y && eqDs a b
  | _, _ => false
end
/-- data of depth less than k, no list too long -/
inductive Sm : Nat → D → Prop
  | non (k : Nat) : Sm (k + 1) .non
  | bl (k : Nat) (b : Bool) : Sm (k + 1) (.bl b)
  | int (k : Nat) (i : Int) : Sm (k + 1) (.int i)
  | str (k : Nat) (x : Str) : Sm (k + 1) (.str x)
  | tup (k : Nat) (xs : List D) (hl : xs.length ≤ 16000000) (h : ∀ x, x ∈ xs → Sm k x) : Sm (k + 1) (.tup xs)
  | lst (k : Nat) (xs : List D) (hl : xs.length ≤ 16000000) (h : ∀ x, x ∈ xs → Sm k x) : Sm (k + 1) (.lst xs)
theorem Sm.pv {k : Nat} {d : D} (h : Sm k d) : Pv k d := by
  induction h with
  | non k => exact .non _
  | bl k b => exact .bl _ _
  | int k i => exact .int _ _
  | str k x => exact .str _ _
  | tup k xs hl h ih => exact .tup _ _ ih
  | lst k xs hl h ih => exact .lst _ _ ih
theorem Sm.mono {k j : Nat} {d : D} (h : Sm k d) (hk : k ≤ j) : Sm j d := by
  induction h generalizing j with
  | non => cases j with | zero => omega | succ j => exact .non _
  | bl => cases j with | zero => omega | succ j => exact .bl _ _
  | int => cases j with | zero => omega | succ j => exact .int _ _
  | str => cases j with | zero => omega | succ j => exact .str _ _
  | tup k xs hl h ih => cases j with | zero => omega | succ j => exact .tup _ _ hl fun x hx => ih x hx (by omega)
  | lst k xs hl h ih => cases j with | zero => omega | succ j => exact .lst _ _ hl fun x hx => ih x hx (by omega)
mutual
theorem eqD_iff : ∀ (d e : D) {k : Nat}, Pv k e → (eqD d e = true ↔ d = e)
  | .tup a, .tup b, k, p => by
    cases p with
    | tup k _ h => rw [eqD, eqDs_iff a b h]; simp
  | .lst a, .lst b, k, p => by
    cases p with
    | lst k _ h => rw [eqD, eqDs_iff a b h]; simp
  | d, .non, k, p => by cases d <;> simp [eqD]
  | d, .bl b, k, p => by cases d <;> simp [eqD]
  | d, .int b, k, p => by cases d <;> simp [eqD]
  | d, .str b, k, p => by cases d <;> simp [eqD]
  | .non, .tup b, k, p => by simp [eqD]
  | .bl _, .tup b, k, p => by simp [eqD]
  | .int _, .tup b, k, p => by simp [eqD]
  | .str _, .tup b, k, p => by simp [eqD]
  | .lst _, .tup b, k, p => by simp [eqD]
  | .dic _, .tup b, k, p => by simp [eqD]
  | .dit _, .tup b, k, p => by simp [eqD]
  | .ins _ _, .tup b, k, p => by simp [eqD]
  | .exn _ _, .tup b, k, p => by simp [eqD]
  | .fn _, .tup b, k, p => by simp [eqD]
  | .ty _, .tup b, k, p => by simp [eqD]
  | .ref _, .tup b, k, p => by simp [eqD]
  | .scr _, .tup b, k, p => by simp [eqD]
  | .non, .lst b, k, p => by simp [eqD]
  | .bl _, .lst b, k, p => by simp [eqD]
  | .int _, .lst b, k, p => by simp [eqD]
  | .str _, .lst b, k, p => by simp [eqD]
  | .tup _, .lst b, k, p => by simp [eqD]
  | .dic _, .lst b, k, p => by simp [eqD]
  | .dit _, .lst b, k, p => by simp [eqD]
  | .ins _ _, .lst b, k, p => by simp [eqD]
  | .exn _ _, .lst b, k, p => by simp [eqD]
  | .fn _, .lst b, k, p => by simp [eqD]
  | .ty _, .lst b, k, p => by simp [eqD]
  | .ref _, .lst b, k, p => by simp [eqD]
  | .scr _, .lst b, k, p => by simp [eqD]
theorem eqDs_iff : ∀ (a b : List D) {k : Nat}, (∀ x, x ∈ b → Pv k x) → (eqDs a b = true ↔ a = b)
  | [], [], _, _ => by simp [eqDs]
  | [], _ :: _, _, _ => by simp [eqDs]
  | _ :: _, [], _, _ => by simp [eqDs]
  | x :: a, y :: b, _, h => by
    rw [eqDs, Bool.and_eq_true, eqD_iff x y (h y List.mem_cons_self), eqDs_iff a b fun z hz => h z (List.mem_cons_of_mem _ hz)]
    simp
end
theorem eqDs_len : ∀ (a b : List D), a.length ≠ b.length → eqDs a b = false
  | [], [], h => absurd rfl h
  | [], _ :: _, _ => rfl
  | _ :: _, [], _ => rfl
  | x :: a, y :: b, h => by rw [eqDs, eqDs_len a b (by simpa using h), Bool.and_false]
theorem eqDs_all : ∀ (a b : List D), a.length = b.length → (eqDs a b = true ↔ ∀ (i : Nat) (x y : D), a[i]? = some x → b[i]? = some y → eqD x y = true)
  | [], [], _ => by simp [eqDs]
  | [], _ :: _, h => by simp at h
  | _ :: _, [], h => by simp at h
  | x :: a, y :: b, h => by
    rw [eqDs, Bool.and_eq_true, eqDs_all a b (by simpa using h)]
    constructor
    · rintro ⟨h1, h2⟩ i u v hu hv
      cases i with
      | zero => simp at hu hv; subst hu hv; exact h1
      | succ i => exact h2 i u v (by simpa using hu) (by simpa using hv)
    · intro q
      exact ⟨q 0 x y rfl rfl, fun i u v hu hv => q (i + 1) u v (by simpa using hu) (by simpa using hv)⟩
/-- the places where two rows differ -/
theorem diff_nil (a b : List D) (h : a.length = b.length) : (((List.range b.length).filterMap fun i => if eqD (a.getD i .non) (b.getD i .non) = true then none else some (D.int (i : Nat))).length = 0) ↔ eqDs a b = true := by
  rw [eqDs_all a b h, List.length_eq_zero_iff, List.filterMap_eq_nil_iff]
  constructor
  · intro q i x y hx hy
    have hi : i < b.length := (List.getElem?_eq_some_iff.mp hy).1
    have := q i (List.mem_range.mpr hi)
    rw [List.getD_eq_getElem?_getD, List.getD_eq_getElem?_getD, hx, hy] at this
    simpa using this
  · intro q i hi
    have hi := List.mem_range.mp hi
    have := q i (a[i]'(by omega)) b[i] (List.getElem?_eq_getElem _) (List.getElem?_eq_getElem hi)
    rw [List.getD_eq_getElem?_getD, List.getD_eq_getElem?_getD, List.getElem?_eq_getElem (by omega), List.getElem?_eq_getElem hi]
    simpa using this
/-- the kind of data -/
def kd : D → Ty7
  | .bl _ => .bl
  | .int _ => .int
  | .str _ => .str
  | .tup _ => .tup
  | .lst _ => .lst
  | _ => .non
theorem isi_of {k : Nat} {d : D} (p : Pv k d) (h : Hh) {n : String} {c : Ty7} (hc : tyOf7 n = some c) : isiOp [d, .ty n] h = .ok (.bl (isT (kd d) c)) h := by
  cases p <;> simp [isiOp, kin, hc, kd]
abbrev tIsi (i : Nat) (n : String) : TM := mTru (mApp isiOp (mCons (mV i) (mCons (mC (.ty n)) mNil)))
abbrev eIsi (i : Nat) (n : String) : EM := mApp isiOp (mCons (mV i) (mCons (mC (.ty n)) mNil))
section
variable {i j ki kj : Nat} {s : Sl} {h : Hh} {d e : D} {n m : String} {c c2 : Ty7}
theorem eIsi_ok (hi : s[i]? = some (some d)) (p : Pv ki d) (hc : tyOf7 n = some c) : eIsi i n s h = .ok (.bl (isT (kd d) c)) h := by
  simp [mApp, mCons, mNil, mV, mC, hi, isi_of p h hc]
theorem tIsi_ok (hi : s[i]? = some (some d)) (p : Pv ki d) (hc : tyOf7 n = some c) : tIsi i n s h = .ok (isT (kd d) c) h := by
  have := eIsi_ok (h := h) hi p hc
  show (eIsi i n s h).bind (fun v h1 => truOp v h1) = _
  rw [this]
  rfl
theorem or_ok {f g : TM} {a b : Bool} (hf : f s h = .ok a h) (hg : g s h = .ok b h) : mOr f g s h = .ok (a || b) h := by
  cases a <;> simp [mOr, hf, hg]
theorem andE_ok {f g : EM} {a : Bool} (hf : f s h = .ok (.bl a) h) : mAndV f g s h = if a = true then g s h else .ok (.bl false) h := by
  cases a <;> simp [mAndV, hf]
theorem neB_ok {f g : EM} {a b : Bool} (hf : f s h = .ok (.bl a) h) (hg : g s h = .ok (.bl b) h) : mB (m2 neOp f g) s h = .ok (!(a == b)) h := by
  simp [mB, m2, hf, hg]
theorem isNon_ok (hi : s[i]? = some (some d)) : (m2 (isOp false) (mV i) (mC .non)) s h = .ok (.bl (isN d)) h := by
  simp [m2, mV, mC, hi, isOp]
end
theorem same_rows {k j : Nat} {xs ys : List D} {h : Hh} {a b o2 : Option D} (hl : ys.length ≤ 16000000) (hlen : xs.length = ys.length) (hx : ∀ x, x ∈ xs → Sm j x) (hy : ∀ y, y ∈ ys → Sm k y)
    (hix : ∀ (i : Nat) x, xs[i]? = some x → ∀ s : Sl, s[0]? = some a → s[2]? = some (some (.int (i : Nat))) → ∀ h, (m2 ixOp (mV 0) (mV 2)) s h = .ok x h)
    (hiy : ∀ (i : Nat) y, ys[i]? = some y → ∀ s : Sl, s[1]? = some b → s[2]? = some (some (.int (i : Nat))) → ∀ h, (m2 ixOp (mV 1) (mV 2)) s h = .ok y h)
    (call : ∀ {d e : D} (h : Hh), Sm j d → Sm k e → callOp (FSame k) [d, e] h = .ok (.bl (eqD d e)) h)
    {Q : List D → Hh → Prop} (q : ∀ zs, (zs.length = 0 ↔ eqDs xs ys = true) → Q zs h) :
    Okv (lcL (gN 2) (mNot (mTru (mCall (FSame k) (mCons (m2 ixOp (mV 0) (mV 2)) (mCons (m2 ixOp (mV 1) (mV 2)) mNil))))) (mV 2) [2] none [a, b, o2] (rngD 0 ys.length) [] h) Q := by
  rw [show rngD 0 ys.length = (List.range ys.length).map fun i => D.int (i : Nat) by simp [rngD]]
  refine lc_map (fun i => if eqD (xs.getD i .non) (ys.getD i .non) = true then none else some (.int (i : Nat))) (fun i hi => ?_) (q _ (diff_nil xs ys hlen))
  have hi := List.mem_range.mp hi
  have e1 := hix i (xs[i]'(by omega)) (List.getElem?_eq_getElem _) [a, b, some (.int (i : Nat))] rfl rfl
  have e2 := hiy i ys[i] (List.getElem?_eq_getElem hi) [a, b, some (.int (i : Nat))] rfl rfl
  have c := fun h => call h (hx _ (List.getElem_mem (show i < xs.length by omega))) (hy _ (List.getElem_mem hi))
  rw [List.getD_eq_getElem?_getD, List.getD_eq_getElem?_getD, List.getElem?_eq_getElem (by omega), List.getElem?_eq_getElem hi]
  simp [lcF, wip, bnd, mNot, mTru, mCall, mCons, mNil, mV, e1, e2, c]
  by_cases q : eqD xs[i] ys[i] = true <;> simp [q]
theorem eqD_kd {d e : D} (h : kd d ≠ kd e) (he : kd e ≠ .non) : eqD d e = false := by
  cases d <;> cases e <;> simp_all [kd, eqD]
theorem FSame_ok {k : Nat} : ∀ {j : Nat} {d e : D}, Sm j d → Sm k e → FSame k [d, e] [] = .ok (.bl (eqD d e)) [] := by
  induction k with
  | zero => intro j d e _ q; cases q
  | succ k ih =>
    intro j d e p q
    have call : ∀ {j : Nat} {d e : D} (h : Hh), Sm j d → Sm k e → callOp (FSame k) [d, e] h = .ok (.bl (eqD d e)) h := fun h p q =>
      call_pv (fun x hx => by
        simp at hx
        rcases hx with rfl | rfl
        · exact ⟨_, p.pv⟩
        · exact ⟨_, q.pv⟩) (ih p q) (.bl 0 _)
    refine Okv.is ?_
    unfold FSame
    refine callF_ok ?_
    have pd := p.pv
    have pe := q.pv
    have T0 := fun {n : String} {c : Ty7} (hc : tyOf7 n = some c) => tIsi_ok (i := 0) (s := startD 3 [d, e]) (h := []) rfl pd hc
    have T1 := fun {n : String} {c : Ty7} (hc : tyOf7 n = some c) => tIsi_ok (i := 1) (s := startD 3 [d, e]) (h := []) rfl pe hc
    have E0 := fun {n : String} {c : Ty7} (hc : tyOf7 n = some c) => eIsi_ok (i := 0) (s := startD 3 [d, e]) (h := []) rfl pd hc
    have E1 := fun {n : String} {c : Ty7} (hc : tyOf7 n = some c) => eIsi_ok (i := 1) (s := startD 3 [d, e]) (h := []) rfl pe hc
    have N0 := isNon_ok (i := 0) (s := startD 3 [d, e]) (h := []) rfl
    have N1 := isNon_ok (i := 1) (s := startD 3 [d, e]) (h := []) rfl
    have done : ∀ b, Okv (fin false ([] : Hh).length (.bl b) []) (fun a h => a = .bl (eqD d e) ∧ h = []) ↔ b = eqD d e := fun b => by simp [fin, frzD]
    have eqv01 : ∀ h, (m2 eqOp (mV 0) (mV 1)) (startD 3 [d, e]) h = eqOp d e h := fun h => by simp [m2, mV, startD]
    unfold gSame
    rw [OkS_then, OkS_if, or_ok (T1 (n := "tuple") (by rfl)) (T1 (n := "list") (by rfl)), Okv_ok]
    by_cases hs : (isT (kd e) .tup || isT (kd e) .lst) = true
    · rw [if_pos hs, OkS_then, OkS_if, or_ok (neB_ok (E0 (n := "tuple") (by rfl)) (E1 (n := "tuple") (by rfl))) (neB_ok (E0 (n := "list") (by rfl)) (E1 (n := "list") (by rfl))), Okv_ok]
      by_cases hk : (!(isT (kd d) .tup == isT (kd e) .tup) || !(isT (kd d) .lst == isT (kd e) .lst)) = true
      · rw [if_pos hk, OkS_ret]
        have : eqD d e = false := by cases q <;> cases p <;> simp [kd, isT] at hs hk <;> rfl
        simp only [mC, Okv_ok]
        rw [done, this]
      · rw [if_neg hk, OkS_nil, OkS_then, OkS_if]
        cases q with
        | tup _ ys hl hy =>
          cases p with
          | tup j xs hl2 hx =>
            have h6 : (ys.length : Int) ≤ 16777216 := by omega
            by_cases hlen : xs.length = ys.length
            · simp [startD, mB, m2, mApp, mCons, mNil, mV, mC, mLc, mRng, h6, hlen]
              refine same_rows hl hlen hx hy (fun i x hx s h0 h2 h => ?_) (fun i x hx s h0 h2 h => ?_) call fun zs hz => ?_
              · have ha : atI xs (i : Nat) = some x := by rw [atI_ge (by omega)]; simpa using hx
                simp [m2, mV, h0, h2, ha]
              · have ha : atI ys (i : Nat) = some x := by rw [atI_ge (by omega)]; simpa using hx
                simp [m2, mV, h0, h2, ha]
              · have hz2 : ((zs.length : Int) == 0) = eqDs xs ys := by
                  rw [Bool.eq_iff_iff]
                  simp only [beq_iff_eq]
                  rw [← hz]
                  omega
                simp [mkL, fin, frzD, eqD]
                simpa using hz2
            · have h7 : ¬ (xs.length : Int) = ys.length := by omega
              simp [startD, mB, m2, mApp, mCons, mNil, mV, mC, h7, fin, frzD, eqD, eqDs_len _ _ hlen]
          | _ => simp [kd, isT] at hk
        | lst _ ys hl hy =>
          cases p with
          | lst j xs hl2 hx =>
            have h6 : (ys.length : Int) ≤ 16777216 := by omega
            by_cases hlen : xs.length = ys.length
            · simp [startD, mB, m2, mApp, mCons, mNil, mV, mC, mLc, mRng, h6, hlen]
              refine same_rows hl hlen hx hy (fun i x hx s h0 h2 h => ?_) (fun i x hx s h0 h2 h => ?_) call fun zs hz => ?_
              · have ha : atI xs (i : Nat) = some x := by rw [atI_ge (by omega)]; simpa using hx
                simp [m2, mV, h0, h2, ha]
              · have ha : atI ys (i : Nat) = some x := by rw [atI_ge (by omega)]; simpa using hx
                simp [m2, mV, h0, h2, ha]
              · have hz2 : ((zs.length : Int) == 0) = eqDs xs ys := by
                  rw [Bool.eq_iff_iff]
                  simp only [beq_iff_eq]
                  rw [← hz]
                  omega
                simp [mkL, fin, frzD, eqD]
                simpa using hz2
            · have h7 : ¬ (xs.length : Int) = ys.length := by omega
              simp [startD, mB, m2, mApp, mCons, mNil, mV, mC, h7, fin, frzD, eqD, eqDs_len _ _ hlen]
          | _ => simp [kd, isT] at hk
        | _ => simp [kd, isT] at hs
    · rw [if_neg hs, OkS_nil, OkS_then, OkS_if, or_ok (T1 (n := "bool") (by rfl)) (T0 (n := "bool") (by rfl)), Okv_ok]
      by_cases hb : (isT (kd e) .bl || isT (kd d) .bl) = true
      · rw [if_pos hb, OkS_ret, andE_ok (E1 (n := "bool") (by rfl)), andE_ok (E0 (n := "bool") (by rfl)), eqv01]
        cases q <;> cases p <;> simp [kd, isT] at hs hb ⊢ <;> simp [fin, frzD, eqD]
      · rw [if_neg hb, OkS_nil, OkS_then, OkS_if]
        have o1 : mOr (mB (m2 (isOp false) (mV 1) (mC .non))) (mB (m2 (isOp false) (mV 0) (mC .non))) (startD 3 [d, e]) [] = .ok (isN e || isN d) [] := or_ok (by simp [mB, N1]) (by simp [mB, N0])
        rw [o1, Okv_ok]
        by_cases hn : (isN e || isN d) = true
        · rw [if_pos hn, OkS_ret, andE_ok N1, N0]
          cases q <;> cases p <;> simp [kd, isT, isN] at hs hb hn ⊢ <;> simp [fin, frzD, eqD]
        · rw [if_neg hn, OkS_nil, OkS_then, OkS_if, or_ok (T1 (n := "str") (by rfl)) (T0 (n := "str") (by rfl)), Okv_ok]
          by_cases ht : (isT (kd e) .str || isT (kd d) .str) = true
          · rw [if_pos ht, OkS_ret, andE_ok (E1 (n := "str") (by rfl)), andE_ok (E0 (n := "str") (by rfl)), eqv01]
            cases q <;> cases p <;> simp [kd, isT, isN] at hs hb hn ht ⊢ <;> simp [fin, frzD, eqD]
          · rw [if_neg ht, OkS_nil, OkS_ret, andE_ok (E0 (n := "int") (by rfl)), andE_ok (E1 (n := "int") (by rfl)), eqv01]
            cases q <;> cases p <;> simp [kd, isT, isN] at hs hb hn ht ⊢ <;> simp [fin, frzD, eqD]
theorem FSame_call {k j : Nat} {d e : D} {h : Hh} (p : Sm j d) (q : Sm k e) : callOp (FSame k) [d, e] h = .ok (.bl (eqD d e)) h :=
  call_pv (fun x hx => by
    simp at hx
    rcases hx with rfl | rfl
    · exact ⟨_, p.pv⟩
    · exact ⟨_, q.pv⟩) (FSame_ok p q) (.bl 0 _)
theorem FSame_eq {k : Nat} {d : D} {h : Hh} (q : Sm k d) : callOp (FSame k) [d, d] h = .ok (.bl true) h := by
  rw [FSame_call q q, (eqD_iff d d q.pv).mpr rfl]
end TB
end

section
set_option Elab.async false
set_option linter.all false
set_option maxRecDepth 100000
set_option autoImplicit false
set_option maxHeartbeats 2000000
/-! PQ4: a dict whose values are lists that grow. -/
namespace TB
open PySem PySem.Spec PyProof.Rows L2
/-- key, cell, items -/
abbrev DE := Key × Nat × List D
def dlK (es : List DE) : List (Key × D) := es.map fun e => (e.1, .ref e.2.1)
structure DL (c : Nat) (h : Hh) (es : List DE) : Prop where
  cell : h[c]? = some (.dic (dlK es))
  nd : (es.map (·.1)).Nodup
  rn : (es.map (·.2.1)).Nodup
  off : ∀ e, e ∈ es → e.2.1 ≠ c
  at_ : ∀ e, e ∈ es → h[e.2.1]? = some (.lst e.2.2)
section
variable {c : Nat} {h : Hh} {es : List DE} {k : Key} {r : Nat} {xs : List D} {x : D}
theorem dlK_keys : (dlK es).map (·.1) = es.map (·.1) := by unfold dlK; rw [List.map_map]; rfl
theorem DL.nil (e : h[c]? = some (.dic [])) : DL c h [] := ⟨e, .nil, .nil, (fun _ h => by cases h), (fun _ h => by cases h)⟩
theorem DL.lt (D : DL c h es) : c < h.length := (List.getElem?_eq_some_iff.mp D.cell).1
theorem DL.rlt (D : DL c h es) {e : DE} (he : e ∈ es) : e.2.1 < h.length := (List.getElem?_eq_some_iff.mp (D.at_ e he)).1
theorem DL.push (D : DL c h es) (l : Hh) : DL c (h ++ l) es :=
  ⟨by rw [List.getElem?_append_left D.lt]; exact D.cell, D.nd, D.rn, D.off, fun e he => by rw [List.getElem?_append_left (D.rlt he)]; exact D.at_ e he⟩
theorem DL.val (D : DL c h es) (m : (k, r, xs) ∈ es) : valD (dlK es) k = some (.ref r) :=
  valD_of (by rw [dlK_keys]; exact D.nd) (List.mem_map.mpr ⟨_, m, rfl⟩)
theorem DL.out (D : DL c h es) (m : k ∉ es.map (·.1)) : valD (dlK es) k = none := by
  rw [valD_none, dlK_keys]; exact m
theorem DL.same (D : DL c h es) (m : (k, r, xs) ∈ es) : putD (dlK es) k (.ref r) = dlK es := by
  have ha : ((dlK es).any fun kv => decide (kv.1 = k)) = true := List.any_eq_true.mpr ⟨(k, .ref r), List.mem_map.mpr ⟨_, m, rfl⟩, by simp⟩
  unfold putD
  rw [if_pos ha]
  conv => rhs; rw [← List.map_id (dlK es)]
  refine List.map_congr_left fun kv hkv => ?_
  split
  · rename_i e
    obtain ⟨e0, he0, rfl⟩ := List.mem_map.mp hkv
    have := valD_of (ks := dlK es) (by rw [dlK_keys]; exact D.nd) (List.mem_map.mpr ⟨e0, he0, rfl⟩)
    simp only at e this
    rw [e, D.val m] at this
    cases this
    simp [← e]
  · rfl
theorem DL.set_same (D : DL c h es) : h.set c (.dic (dlK es)) = h := by
  obtain ⟨hl, e⟩ := List.getElem?_eq_some_iff.mp D.cell
  rw [← e]
  exact List.set_getElem_self hl
theorem DL.add (D : DL c h es) (m : k ∉ es.map (·.1)) : DL c ((h ++ [Ob.lst []]).set c (.dic (putD (dlK es) k (.ref h.length)))) (es ++ [(k, h.length, [])]) := by
  have hl := D.lt
  have e1 : putD (dlK es) k (.ref h.length) = dlK (es ++ [(k, h.length, [])]) := by
    rw [putD_keys_out (by rw [dlK_keys]; exact m)]
    simp [dlK]
  rw [e1]
  refine ⟨?_, ?_, ?_, fun e he => ?_, fun e he => ?_⟩
  · rw [List.getElem?_set_self (by simp; omega)]
  · rw [List.map_append]
    exact List.nodup_append.mpr ⟨D.nd, by simp, fun a ha b hb z => m (by simp at hb; rw [← hb, ← z]; exact ha)⟩
  · rw [List.map_append]
    refine List.nodup_append.mpr ⟨D.rn, by simp, fun a ha b hb z => ?_⟩
    simp at hb
    obtain ⟨e, he, rfl⟩ := List.mem_map.mp ha
    have := D.rlt he
    omega
  · rcases List.mem_append.mp he with he | he
    · exact D.off e he
    · simp at he; subst he
      simp only
      omega
  · rcases List.mem_append.mp he with he | he
    · rw [List.getElem?_set_ne (Ne.symm (D.off e he)), List.getElem?_append_left (D.rlt he)]
      exact D.at_ e he
    · simp at he; subst he
      rw [List.getElem?_set_ne (by simp only; omega)]
      simp
def dlApp (es : List DE) (k : Key) (x : D) : List DE := es.map fun e => if e.1 = k then (e.1, e.2.1, e.2.2 ++ [x]) else e
theorem dlApp_keys : (dlApp es k x).map (·.1) = es.map (·.1) := by
  unfold dlApp
  rw [List.map_map]
  exact List.map_congr_left fun e _ => by simp only [Function.comp_def]; split <;> rfl
theorem dlApp_refs : (dlApp es k x).map (·.2.1) = es.map (·.2.1) := by
  unfold dlApp
  rw [List.map_map]
  exact List.map_congr_left fun e _ => by simp only [Function.comp_def]; split <;> rfl
theorem dlApp_dlK : dlK (dlApp es k x) = dlK es := by
  unfold dlApp dlK
  rw [List.map_map]
  exact List.map_congr_left fun e _ => by simp only [Function.comp_def]; split <;> rfl
theorem nodup_key {α β : Type} {f : α → β} : ∀ {l : List α}, (l.map f).Nodup → ∀ a b, a ∈ l → b ∈ l → f a = f b → a = b
  | [], _, _, _, h, _, _ => by cases h
  | y :: r, nd, a, b, ha, hb, e => by
    rw [List.map_cons, List.nodup_cons] at nd
    rcases List.mem_cons.mp ha with rfl | ha <;> rcases List.mem_cons.mp hb with rfl | hb
    · rfl
    · exact (nd.1 (List.mem_map.mpr ⟨b, by assumption, e.symm⟩)).elim
    · exact (nd.1 (List.mem_map.mpr ⟨a, by assumption, e⟩)).elim
    · exact nodup_key nd.2 a b ha hb e
theorem DL.app (D : DL c h es) (m : (k, r, xs) ∈ es) : DL c (h.set r (.lst (xs ++ [x]))) (dlApp es k x) := by
  have hrc : r ≠ c := D.off _ m
  have hr := D.rlt m
  refine ⟨by rw [List.getElem?_set_ne hrc, dlApp_dlK]; exact D.cell, by rw [dlApp_keys]; exact D.nd, by rw [dlApp_refs]; exact D.rn, fun e he => ?_, fun e he => ?_⟩
  · obtain ⟨e0, h0, rfl⟩ := List.mem_map.mp he
    have := D.off e0 h0
    split <;> exact this
  · obtain ⟨e0, h0, rfl⟩ := List.mem_map.mp he
    split
    · rename_i e1
      have : e0 = (k, r, xs) := nodup_key D.nd e0 _ h0 m e1
      subst this
      simp only
      rw [List.getElem?_set_self hr]
    · rename_i e1
      have : e0.2.1 ≠ r := fun z => e1 (by
        have := nodup_key D.rn e0 _ h0 m z
        rw [this])
      rw [List.getElem?_set_ne (Ne.symm this)]
      exact D.at_ e0 h0
theorem frzGs_low {k f : Nat} : ∀ {l : List D}, (∀ x, x ∈ l → low k x = true) → frzGs k h (f + 2) l = some l
  | [], _ => by unfold frzGs; rfl
  | x :: l, hx => by
    have e : frzG k h (f + 1) x = some x := by
      unfold frzG
      rw [if_pos (hx x List.mem_cons_self)]
    unfold frzGs
    rw [e, frzGs_low fun y hy => hx y (List.mem_cons_of_mem _ hy)]
theorem frzGs_map {α : Type} {k f : Nat} {g : α → D} {g2 : α → D} : ∀ {l : List α}, (∀ x, x ∈ l → frzG k h f (g x) = some (g2 x)) → frzGs k h (f + 1) (l.map g) = some (l.map g2)
  | [], _ => by unfold frzGs; rfl
  | x :: l, hx => by
    rw [List.map_cons]
    unfold frzGs
    rw [hx x List.mem_cons_self, frzGs_map fun y hy => hx y (List.mem_cons_of_mem _ hy)]
    rfl
theorem zip_maps {α β γ : Type} {f : α → β} {g : α → γ} : ∀ l : List α, (l.map f).zip (l.map g) = l.map fun x => (f x, g x)
  | [] => rfl
  | x :: l => by simp [zip_maps l]
/-- the dict as it stays -/
theorem DL.frz (W : DL c h es) {j : Nat} (hj : j ≤ c) (hr : ∀ e, e ∈ es → j ≤ e.2.1) (hx : ∀ e, e ∈ es → ∀ x, x ∈ e.2.2 → low j x = true) : frzG j h 9 (.ref c) = some (D.dic (es.map fun e => (e.1, D.lst e.2.2))) := by
  unfold frzG
  have h1 : ¬ low j (.ref c) = true := by simp [low]; omega
  rw [if_neg h1]
  simp only [W.cell]
  have e1 : (dlK es).map (·.2) = es.map fun e => D.ref e.2.1 := by unfold dlK; rw [List.map_map]; rfl
  rw [e1, frzGs_map (g2 := fun e : DE => .lst e.2.2) (f := 7) fun e he => ?_, dlK_keys]
  · simp only [Option.map_some]
    rw [zip_maps]
  · unfold frzG
    have h2 : ¬ low j (.ref e.2.1) = true := by
      have := hr e he
      simp [low]; omega
    rw [if_neg h2]
    simp only [W.at_ e he, frzGs_low (hx e he)]
    rfl
end
section
variable {s : Sl} {h h1 h2 : Hh} {x y : D} {a b : EM} {f : D → D → Hh → Res D} {p q : TM} {c : Bool}
theorem m2_ok (ha : a s h = .ok x h1) (hb : b s h1 = .ok y h2) : m2 f a b s h = f x y h2 := by
  unfold m2
  rw [ha]
  simp only [Res.bind_ok]
  rw [hb]
  rfl
theorem mB_ok (ha : a s h = .ok (.bl c) h1) : mB a s h = .ok c h1 := by
  unfold mB
  rw [ha]
  rfl
theorem and_ok (hp : p s h = .ok c h1) : mAnd p q s h = if c = true then q s h1 else .ok false h1 := by
  cases c <;> simp [mAnd, hp]
theorem mApp_ok {g : List D → Hh → Res D} {fr : AM} {xs : List D} (ha : fr s h = .ok xs h1) : mApp g fr s h = g xs h1 := by
  unfold mApp
  rw [ha]
  rfl
theorem mRng_ok {fr : AM} {n : Nat} (e : fr s h = .ok [.int (n : Nat)] h1) (hn : n ≤ 16000000) : mRng fr s h = .ok (rngD 0 (n : Nat), none) h1 := by
  unfold mRng
  rw [e]
  show rngOp [.int (n : Nat)] h1 = _
  rw [rng_n, if_pos (by omega)]
theorem mCons_ok {fr : AM} {xs : List D} (ha : a s h = .ok x h1) (hr : fr s h1 = .ok xs h2) : mCons a fr s h = .ok (x :: xs) h2 := by
  unfold mCons
  rw [ha]
  simp only [Res.bind_ok]
  rw [hr]
  rfl
theorem mCall_ok {F : FM} {fr : AM} {xs : List D} (ha : fr s h = .ok xs h1) : mCall F fr s h = callOp F xs h1 := by
  unfold mCall
  rw [ha]
  rfl
theorem mV_ok {i : Nat} (e : s[i]? = some (some x)) : mV i s h = .ok x h := by simp [mV, e]
end
end TB
end

section
set_option Elab.async false
set_option linter.all false
set_option maxRecDepth 100000
set_option maxHeartbeats 4000000
namespace G89
open PySem PySem.Spec PyProof.Rows L2 TB
def top (i : Nat) : Stmt := PySem.Challenge.pw_toldbyrules_k89_whole_who_wins.main.body.getD i (.Pass ⟨0, 0, 0, 0⟩)
/-- what the module does not name -/
structure Txt (mg : Str → Option Value) : Prop where
  b_all : mg "all" = none
  b_any : mg "any" = none
  b_bool : mg "bool" = none
  b_dict : mg "dict" = none
  b_int : mg "int" = none
  b_isinstance : mg "isinstance" = none
  b_len : mg "len" = none
  b_list : mg "list" = none
  b_max : mg "max" = none
  b_min : mg "min" = none
  b_range : mg "range" = none
  b_sorted : mg "sorted" = none
  b_str : mg "str" = none
  b_tuple : mg "tuple" = none
section
variable [lc : LC] [LT] {P : Program} {w : World} {K : PySem.W.Frag} {mg : Str → Option Value} {base : Heap} {f : Addr} {fd : FuncData} {cdv : Value} {A : Around} {outer : List Env} {s : Shared} {H : Hp} {E : XK}
/-! ### _law_draws -/
abbrev s_law_draws : Stmt := top 12
abbrev n_law_draws : List Str := ["script"]
noncomputable def m_law_draws : SM := (sRet (mApp (lstOp true) (mCons (mApp (listOp1 false) (mCons (mV 0) mNil)) (mCons (mC (.int 0)) (mCons (mC (.int 0)) (mCons (mC (.int 1)) mNil))))))
noncomputable def F_law_draws : FM := callF true m_law_draws 1
theorem sc_law_draws : FnScope n_law_draws ["script"] (defScope s_law_draws) := ⟨rfl, rfl, rfl, by decide +kernel, rfl, by decide +kernel, by decide +kernel⟩
theorem d_law_draws (T : Txt mg) (hr : Room 0 (A.deeper (envOfC "_law_draws" (defScope s_law_draws) s.heap.objs.size f cdv))) : SSs WF (cxOf CX0 P w K mg base n_law_draws "_law_draws" (defScope s_law_draws) f cdv A outer s H E).nox (defBody s_law_draws) m_law_draws := by
  have h64 := u64 hr
  have h65 := u65 hr
  have h66 := u66 hr
  have nd := sc_law_draws.nd
  exact (sss_one (ss_ret (se_lst true (sa_cons (se_listC false rfl T.b_list (sa_cons (se_var 0) sa_nil)) (sa_cons se_int (sa_cons se_int (sa_cons se_int sa_nil)))))))
theorem c_law_draws (Fn : Fun K "_law_draws" "_law_draws" s_law_draws f fd) (hmg : mg "_law_draws" = some (.ref f)) (T : Txt mg) : Cb P w K mg base 1 "_law_draws" 1 F_law_draws :=
  ⟨⟨f, fd, ["script"], fn_ok Fn sc_law_draws (fun cdv A outer s H E hr => d_law_draws T hr), hmg, Fn.kp, (Fn.binds (ps := ["script"]) fun _ _ _ _ _ _ us hl => match us, hl with | [_], _ => rfl)⟩⟩
/-! ### _law_draw -/
abbrev s_law_draw : Stmt := top 13
abbrev n_law_draw : List Str := ["draws", "limit", "cell", "value"]
noncomputable def m_law_draw : SM := (sThen (sIf (mAnd (mB (m2 eqOp (m2 ixOp (mV 0) (mC (.int 2))) (mC (.int 0)))) (mB (m2 ltOp (m2 ixOp (mV 0) (mC (.int 1))) (mApp lenOp (mCons (m2 ixOp (mV 0) (mC (.int 0))) mNil))))) (sThen (sAsg (m2 ixOp (m2 ixOp (mV 0) (mC (.int 0))) (m2 ixOp (mV 0) (mC (.int 1)))) (gN 2))
    (sThen (sAsg (m2 (addOp false) (m2 ixOp (mV 0) (mC (.int 1))) (mC (.int 1))) (gSetA (mV 0) (mC (.int 1))))
    (sThen (sIf (mB (m2 geOp (mV 2) (m2 powOp (mC (.int 10)) (mC (.int 18))))) (sAsg (mV 2) (gSetA (mV 0) (mC (.int 2)))) sNil)
    (sAsg (m2 modOp (mApp intOp (mCons (m2 (addOp false) (m2 (addOp false) (m2 mulAOp (m2 ixOp (mV 0) (mC (.int 3))) (mC (.int 48271))) (mV 2)) (mC (.int 13))) mNil)) (mC (.int 2147483647))) (gSetA (mV 0) (mC (.int 3))))))) sNil)
    (sThen (sIf (mB (m2 gtOp (m2 ixOp (mV 0) (mC (.int 2))) (mC (.int 0)))) (sThen (sAsg (m2 modOp (mApp intOp (mCons (m2 ixOp (mV 0) (mC (.int 2))) mNil)) (mV 1)) (gN 3))
    (sThen (sAsg (m2 fdivOp (m2 ixOp (mV 0) (mC (.int 2))) (mV 1)) (gSetA (mV 0) (mC (.int 2))))
    (sRet (mV 3)))) sNil)
    (sThen (sAsg (m2 modOp (mApp intOp (mCons (m2 (addOp false) (m2 mulAOp (m2 ixOp (mV 0) (mC (.int 3))) (mC (.int 69621))) (mC (.int 7))) mNil)) (mC (.int 2147483629))) (gSetA (mV 0) (mC (.int 3))))
    (sRet (m2 modOp (mApp intOp (mCons (m2 fdivOp (m2 ixOp (mV 0) (mC (.int 3))) (mC (.int 11))) mNil)) (mV 1))))))
noncomputable def F_law_draw : FM := callF false m_law_draw 4
theorem sc_law_draw : FnScope n_law_draw ["draws", "limit"] (defScope s_law_draw) := ⟨rfl, rfl, rfl, by decide +kernel, rfl, by decide +kernel, by decide +kernel⟩
theorem d_law_draw (T : Txt mg) (hr : Room 0 (A.deeper (envOfC "_law_draw" (defScope s_law_draw) s.heap.objs.size f cdv))) : SSs WF (cxOf CX0 P w K mg base n_law_draw "_law_draw" (defScope s_law_draw) f cdv A outer s H E).nox (defBody s_law_draw) m_law_draw := by
  have h64 := u64 hr
  have h65 := u65 hr
  have h66 := u66 hr
  have nd := sc_law_draw.nd
  exact (sss_cons (ss_if (st_w (stw_and (st_eq h64 (se_ix h65 (se_var 0) se_int) se_int) (stw_and1 (st_lt (se_ix h65 (se_var 0) se_int) (se_len rfl T.b_len (sa_cons (se_ix h65 (se_var 0) se_int) sa_nil)))))) (sss_cons (ss_asg (se_ix h65 (se_ix h65 (se_var 0) se_int) (se_ix h65 (se_var 0) se_int)) (sg_name 2 nd))
    (sss_cons (ss_asg (se_add false (se_ix h65 (se_var 0) se_int) se_int) (sg_setA h65 (se_var 0) se_int))
    (sss_cons (ss_if (st_ge (se_var 2) (se_pow se_int se_int)) (sss_one (ss_asg (se_var 2) (sg_setA h65 (se_var 0) se_int))) sss_nil)
    (sss_one (ss_asg (se_mod (se_intC rfl T.b_int (sa_cons (se_add false (se_add false (se_mulA (se_ix h65 (se_var 0) se_int) se_int) (se_var 2)) se_int) sa_nil)) se_int) (sg_setA h65 (se_var 0) se_int)))))) sss_nil)
    (sss_cons (ss_if (st_gt (se_ix h65 (se_var 0) se_int) se_int) (sss_cons (ss_asg (se_mod (se_intC rfl T.b_int (sa_cons (se_ix h65 (se_var 0) se_int) sa_nil)) (se_var 1)) (sg_name 3 nd))
    (sss_cons (ss_asg (se_fdiv (se_ix h65 (se_var 0) se_int) (se_var 1)) (sg_setA h65 (se_var 0) se_int))
    (sss_one (ss_ret (se_var 3))))) sss_nil)
    (sss_cons (ss_asg (se_mod (se_intC rfl T.b_int (sa_cons (se_add false (se_mulA (se_ix h65 (se_var 0) se_int) se_int) se_int) sa_nil)) se_int) (sg_setA h65 (se_var 0) se_int))
    (sss_one (ss_ret (se_mod (se_intC rfl T.b_int (sa_cons (se_fdiv (se_ix h65 (se_var 0) se_int) se_int) sa_nil)) (se_var 1)))))))
theorem c_law_draw (Fn : Fun K "_law_draw" "_law_draw" s_law_draw f fd) (hmg : mg "_law_draw" = some (.ref f)) (T : Txt mg) : Cb P w K mg base 1 "_law_draw" 2 F_law_draw :=
  ⟨⟨f, fd, ["draws", "limit"], fn_ok Fn sc_law_draw (fun cdv A outer s H E hr => d_law_draw T hr), hmg, Fn.kp, (Fn.binds (ps := ["draws", "limit"]) fun _ _ _ _ _ _ us hl => match us, hl with | [_, _], _ => rfl)⟩⟩
/-! ### _law_pick -/
abbrev s_law_pick : Stmt := top 14
abbrev n_law_pick : List Str := ["draws", "row"]
noncomputable def m_law_pick : SM := (sRet (m2 ixOp (mV 1) (mCall F_law_draw (mCons (mV 0) (mCons (mApp lenOp (mCons (mV 1) mNil)) mNil)))))
noncomputable def F_law_pick : FM := callF false m_law_pick 2
theorem sc_law_pick : FnScope n_law_pick ["draws", "row"] (defScope s_law_pick) := ⟨rfl, rfl, rfl, by decide +kernel, rfl, by decide +kernel, by decide +kernel⟩
theorem d_law_pick (T : Txt mg) (c_law_draw : Cb P w K mg base 1 "_law_draw" 2 F_law_draw) (hr : Room 1 (A.deeper (envOfC "_law_pick" (defScope s_law_pick) s.heap.objs.size f cdv))) : SSs WF (cxOf CX0 P w K mg base n_law_pick "_law_pick" (defScope s_law_pick) f cdv A outer s H E).nox (defBody s_law_pick) m_law_pick := by
  have h64 := u64 hr
  have h65 := u65 hr
  have h66 := u66 hr
  have nd := sc_law_pick.nd
  exact (sss_one (ss_ret (se_ix h65 (se_var 1) (se_call (c_law_draw.mono (by decide)) hr rfl (sa_cons (se_var 0) (sa_cons (se_len rfl T.b_len (sa_cons (se_var 1) sa_nil)) sa_nil)) rfl (mCons_len (mCons_len mNil_len))))))
theorem c_law_pick (Fn : Fun K "_law_pick" "_law_pick" s_law_pick f fd) (hmg : mg "_law_pick" = some (.ref f)) (T : Txt mg) (c_law_draw : Cb P w K mg base 1 "_law_draw" 2 F_law_draw) : Cb P w K mg base 2 "_law_pick" 2 F_law_pick :=
  ⟨⟨f, fd, ["draws", "row"], fn_ok Fn sc_law_pick (fun cdv A outer s H E hr => d_law_pick T c_law_draw hr), hmg, Fn.kp, (Fn.binds (ps := ["draws", "row"]) fun _ _ _ _ _ _ us hl => match us, hl with | [_, _], _ => rfl)⟩⟩
/-! ### _law_table -/
abbrev s_law_table : Stmt := top 17
abbrev n_law_table : List Str := ["moves", "table", "one", "other"]
noncomputable def m_law_table : SM := (sThen (sAsg mDict0 (gN 1))
    (sThen (sFor (mIt (mV 0)) (gT [(gN 2), (gN 3)]) (sThen (sAsg (mMet .dic getOp (mV 1) (mCons (mV 2) (mCons (mApp (lstOp true) mNil) mNil))) (gSetA (mV 1) (mV 2)))
    (sThen (sAsg (mMet .dic getOp (mV 1) (mCons (mV 3) (mCons (mApp (lstOp true) mNil) mNil))) (gSetA (mV 1) (mV 3)))
    (sIf (mB (m2 (inOp true) (mV 3) (m2 ixOp (mV 1) (mV 2)))) (sExp (mMet .lst appendOp (m2 ixOp (mV 1) (mV 2)) (mCons (mV 3) mNil))) sNil))))
    (sRet (mV 1))))
noncomputable def F_law_table : FM := callG m_law_table 4
theorem sc_law_table : FnScope n_law_table ["moves"] (defScope s_law_table) := ⟨rfl, rfl, rfl, by decide +kernel, rfl, by decide +kernel, by decide +kernel⟩
theorem d_law_table (T : Txt mg) (hr : Room 0 (A.deeper (envOfC "_law_table" (defScope s_law_table) s.heap.objs.size f cdv))) : SSs WF (cxOf CX0 P w K mg base n_law_table "_law_table" (defScope s_law_table) f cdv A outer s H E).nox (defBody s_law_table) m_law_table := by
  have h64 := u64 hr
  have h65 := u65 hr
  have h66 := u66 hr
  have nd := sc_law_table.nd
  exact (sss_cons (ss_asg se_dict0 (sg_name 1 nd))
    (sss_cons (ss_for PassesOwn.never rfl (si_any (se_var 0)) (sg_tup rfl (sgs_cons (sg_name 2 nd) (sgs_cons (sg_name 3 nd) sgs_nil)) (quiet_cons (gN_quiet 2) (quiet_cons (gN_quiet 3) (fun g hg => absurd hg (by simp)))) rfl) (sss_cons (ss_asg (se_get h65 (se_var 1) (sa_cons (se_var 2) (sa_cons (se_lst true sa_nil) sa_nil))) (sg_setA h65 (se_var 1) (se_var 2)))
    (sss_cons (ss_asg (se_get h65 (se_var 1) (sa_cons (se_var 3) (sa_cons (se_lst true sa_nil) sa_nil))) (sg_setA h65 (se_var 1) (se_var 3)))
    (sss_one (ss_if (st_notIn h65 (se_var 3) (se_ix h65 (se_var 1) (se_var 2))) (sss_one (ss_expr (se_append (se_ix h65 (se_var 1) (se_var 2)) (sa_cons (se_var 3) sa_nil)))) sss_nil)))))
    (sss_one (ss_ret (se_var 1)))))
theorem c_law_table (Fn : Fun K "_law_table" "_law_table" s_law_table f fd) (hmg : mg "_law_table" = some (.ref f)) (T : Txt mg) : Cb P w K mg base 1 "_law_table" 1 F_law_table :=
  ⟨⟨f, fd, ["moves"], fn_okG Fn sc_law_table (fun cdv A outer s H E hr => d_law_table T hr), hmg, Fn.kp, (Fn.binds (ps := ["moves"]) fun _ _ _ _ _ _ us hl => match us, hl with | [_], _ => rfl)⟩⟩
/-! ### _law_outcomes -/
abbrev s_law_outcomes : Stmt := top 19
abbrev n_law_outcomes : List Str := ["table", "found", "turn", "fresh", "place", "ends", "lost", "other", "end"]
noncomputable def m_law_outcomes : SM := (sThen (sAsg mDict0 (gN 1))
    (sThen (sFor (mRng (mCons (m2 (addOp false) (m2 mulAOp (mC (.int 2)) (mApp lenOp (mCons (mV 0) mNil))) (mC (.int 3))) mNil)) (gN 2) (sThen (sAsg mDict0 (gN 3))
    (sThen (sFor (mIt (mV 0)) (gN 4) (sThen (sAsg (mLc false (mIt (m2 ixOp (mV 0) (mV 4))) (gN 7) tYesM (mMet .dic getOp (mV 1) (mCons (mV 7) mNil)) [7]) (gN 5))
    (sThen (sAsg (mLc false (mIt (mV 5)) (gN 8) (mAnd (mB (m2 (isOp true) (mV 8) (mC .non))) (mB (m2 eqOp (m2 ixOp (mV 8) (mC (.int 0))) (mC (.str (Str.ofString "lose")))))) (m2 ixOp (mV 8) (mC (.int 1))) [8]) (gN 6))
    (sIf (mB (m2 gtOp (mApp lenOp (mCons (mV 6) mNil)) (mC (.int 0)))) (sAsg (mApp tupOp (mCons (mC (.str (Str.ofString "win"))) (mCons (m2 (addOp false) (mC (.int 1)) (mApp min1Op (mCons (mV 6) mNil))) mNil))) (gSetA (mV 3) (mV 4))) (sIf (mB (m2 eqOp (mApp lenOp (mCons (mLc false (mIt (mV 5)) (gN 8) (mOr (mB (m2 (isOp false) (mV 8) (mC .non))) (mB (m2 neOp (m2 ixOp (mV 8) (mC (.int 0))) (mC (.str (Str.ofString "win")))))) (mV 8) [8]) mNil)) (mC (.int 0)))) (sAsg (mApp tupOp (mCons (mC (.str (Str.ofString "lose"))) (mCons (mIf (mB (m2 gtOp (mApp lenOp (mCons (mV 5) mNil)) (mC (.int 0)))) (m2 (addOp false) (mC (.int 1)) (mApp max1Op (mCons (mLc false (mIt (mV 5)) (gN 8) tYesM (m2 ixOp (mV 8) (mC (.int 1))) [8]) mNil))) (mC (.int 0))) mNil))) (gSetA (mV 3) (mV 4))) sNil)))))
    (sAsg (mV 3) (gN 1)))))
    (sRet (mV 1))))
noncomputable def F_law_outcomes : FM := callG m_law_outcomes 9
theorem sc_law_outcomes : FnScope n_law_outcomes ["table"] (defScope s_law_outcomes) := ⟨rfl, rfl, rfl, by decide +kernel, rfl, by decide +kernel, by decide +kernel⟩
theorem d_law_outcomes (T : Txt mg) (hr : Room 0 (A.deeper (envOfC "_law_outcomes" (defScope s_law_outcomes) s.heap.objs.size f cdv))) : SSs WF (cxOf CX0 P w K mg base n_law_outcomes "_law_outcomes" (defScope s_law_outcomes) f cdv A outer s H E).nox (defBody s_law_outcomes) m_law_outcomes := by
  have h64 := u64 hr
  have h65 := u65 hr
  have h66 := u66 hr
  have nd := sc_law_outcomes.nd
  exact (sss_cons (ss_asg se_dict0 (sg_name 1 nd))
    (sss_cons (ss_for PassesOwn.never rfl (si_rng1 rfl T.b_range (sa_cons (se_add false (se_mulA se_int (se_len rfl T.b_len (sa_cons (se_var 0) sa_nil))) se_int) sa_nil)) (sg_name 2 nd) (sss_cons (ss_asg se_dict0 (sg_name 3 nd))
    (sss_cons (ss_for PassesOwn.never rfl (si_any (se_var 0)) (sg_name 4 nd) (sss_cons (ss_setLc (own := [("other", 7)]) false rfl nd rfl rfl rfl (si_any (se_ix h65 (se_var 0) (se_var 4))) (blkOk_by (by first | (show blkC n_law_outcomes (defScope s_law_outcomes) _ _ = true; decide +kernel) | (show blkC n_law_outcomes (relS _ (defScope s_law_outcomes)) _ _ = true; decide +kernel))) (fun s H C cl fp => (sgo_name 7 rfl (by decide) nd)) (fun s H C cl fp => sts_nil) (fun s H C cl fp => (se_get h65 (se_var 1) (sa_cons (se_var 7) sa_nil))))
    (sss_cons (ss_setLc (own := [("end", 8)]) false rfl nd rfl rfl rfl (si_any (se_var 5)) (blkOk_by (by first | (show blkC n_law_outcomes (defScope s_law_outcomes) _ _ = true; decide +kernel) | (show blkC n_law_outcomes (relS _ (defScope s_law_outcomes)) _ _ = true; decide +kernel))) (fun s H C cl fp => (sgo_name 8 rfl (by decide) nd)) (fun s H C cl fp => (sts_one (st_w (stw_and (st_isNot (se_var 8) se_non) (stw_and1 (st_eq h64 (se_ix h65 (se_var 8) se_int) se_str)))))) (fun s H C cl fp => (se_ix h65 (se_var 8) se_int)))
    (sss_one (ss_if (st_gt (se_len rfl T.b_len (sa_cons (se_var 6) sa_nil)) se_int) (sss_one (ss_asg (se_tup (sa_cons se_str (sa_cons (se_add false se_int (se_min1 rfl rfl T.b_min (sa_cons (se_var 6) sa_nil))) sa_nil))) (sg_setA h65 (se_var 3) (se_var 4)))) (sss_one (ss_if (st_eq h64 (se_len rfl T.b_len (sa_cons (se_lc (own := [("end", 8)]) false rfl nd (si_any (se_var 5)) (blkOk_by (by first | (show blkC n_law_outcomes (defScope s_law_outcomes) _ _ = true; decide +kernel) | (show blkC n_law_outcomes (relS _ (defScope s_law_outcomes)) _ _ = true; decide +kernel))) (fun s H C cl fp => (sgo_name 8 rfl (by decide) nd)) (fun s H C cl fp => (sts_one (st_w (stw_or (st_is (se_var 8) se_non) (stw_or1 (st_ne h64 (se_ix h65 (se_var 8) se_int) se_str)))))) (fun s H C cl fp => (se_var 8))) sa_nil)) se_int) (sss_one (ss_asg (se_tup (sa_cons se_str (sa_cons (se_if (st_gt (se_len rfl T.b_len (sa_cons (se_var 5) sa_nil)) se_int) (se_add false se_int (se_max1 rfl rfl T.b_max (sa_cons (se_lc (own := [("end", 8)]) false rfl nd (si_any (se_var 5)) (blkOk_by (by first | (show blkC n_law_outcomes (defScope s_law_outcomes) _ _ = true; decide +kernel) | (show blkC n_law_outcomes (relS _ (defScope s_law_outcomes)) _ _ = true; decide +kernel))) (fun s H C cl fp => (sgo_name 8 rfl (by decide) nd)) (fun s H C cl fp => sts_nil) (fun s H C cl fp => (se_ix h65 (se_var 8) se_int))) sa_nil))) se_int) sa_nil))) (sg_setA h65 (se_var 3) (se_var 4)))) sss_nil)))))))
    (sss_one (ss_asg (se_var 3) (sg_name 1 nd))))))
    (sss_one (ss_ret (se_var 1)))))
theorem c_law_outcomes (Fn : Fun K "_law_outcomes" "_law_outcomes" s_law_outcomes f fd) (hmg : mg "_law_outcomes" = some (.ref f)) (T : Txt mg) : Cb P w K mg base 1 "_law_outcomes" 1 F_law_outcomes :=
  ⟨⟨f, fd, ["table"], fn_okG Fn sc_law_outcomes (fun cdv A outer s H E hr => d_law_outcomes T hr), hmg, Fn.kp, (Fn.binds (ps := ["table"]) fun _ _ _ _ _ _ us hl => match us, hl with | [_], _ => rfl)⟩⟩
/-! ### _law_key -/
abbrev s_law_key : Stmt := top 16
abbrev n_law_key : List Str := ["value"]
noncomputable def m_law_key : SM := (sRet (mIf (mTru (mApp isiOp (mCons (mV 0) (mCons (mC (.ty "str")) mNil)))) (mApp tupOp (mCons (mC (.int 1)) (mCons (mC (.int 0)) (mCons (mV 0) mNil)))) (mApp tupOp (mCons (mC (.int 0)) (mCons (mV 0) (mCons (mC (.str (Str.ofString ""))) mNil))))))
noncomputable def F_law_key : FM := callF false m_law_key 1
theorem sc_law_key : FnScope n_law_key ["value"] (defScope s_law_key) := ⟨rfl, rfl, rfl, by decide +kernel, rfl, by decide +kernel, by decide +kernel⟩
theorem d_law_key (T : Txt mg) (hr : Room 0 (A.deeper (envOfC "_law_key" (defScope s_law_key) s.heap.objs.size f cdv))) : SSs WF (cxOf CX0 P w K mg base n_law_key "_law_key" (defScope s_law_key) f cdv A outer s H E).nox (defBody s_law_key) m_law_key := by
  have h64 := u64 hr
  have h65 := u65 hr
  have h66 := u66 hr
  have nd := sc_law_key.nd
  exact (sss_one (ss_ret (se_if (st_of (se_isi rfl T.b_isinstance (sa_cons (se_var 0) (sa_cons (se_bltn rfl T.b_str rfl rfl) sa_nil)))) (se_tup (sa_cons se_int (sa_cons se_int (sa_cons (se_var 0) sa_nil)))) (se_tup (sa_cons se_int (sa_cons (se_var 0) (sa_cons se_str sa_nil)))))))
theorem c_law_key (Fn : Fun K "_law_key" "_law_key" s_law_key f fd) (hmg : mg "_law_key" = some (.ref f)) (T : Txt mg) : Cb P w K mg base 1 "_law_key" 1 F_law_key :=
  ⟨⟨f, fd, ["value"], fn_ok Fn sc_law_key (fun cdv A outer s H E hr => d_law_key T hr), hmg, Fn.kp, (Fn.binds (ps := ["value"]) fun _ _ _ _ _ _ us hl => match us, hl with | [_], _ => rfl)⟩⟩
/-! ### _law_same -/
abbrev s_law_same : Stmt := top 15
abbrev n_law_same : List Str := ["actual", "expected", "k"]
noncomputable def m_law_same (Fr : FM) : SM := (sThen (sIf (mOr (mTru (mApp isiOp (mCons (mV 1) (mCons (mC (.ty "tuple")) mNil)))) (mTru (mApp isiOp (mCons (mV 1) (mCons (mC (.ty "list")) mNil))))) (sThen (sIf (mOr (mB (m2 neOp (mApp isiOp (mCons (mV 0) (mCons (mC (.ty "tuple")) mNil))) (mApp isiOp (mCons (mV 1) (mCons (mC (.ty "tuple")) mNil))))) (mB (m2 neOp (mApp isiOp (mCons (mV 0) (mCons (mC (.ty "list")) mNil))) (mApp isiOp (mCons (mV 1) (mCons (mC (.ty "list")) mNil)))))) (sRet (mC (.bl false))) sNil)
    (sThen (sIf (mB (m2 neOp (mApp lenOp (mCons (mV 0) mNil)) (mApp lenOp (mCons (mV 1) mNil)))) (sRet (mC (.bl false))) sNil)
    (sRet (m2 eqOp (mApp lenOp (mCons (mLc false (mRng (mCons (mApp lenOp (mCons (mV 1) mNil)) mNil)) (gN 2) (mNot (mTru (mCall Fr (mCons (m2 ixOp (mV 0) (mV 2)) (mCons (m2 ixOp (mV 1) (mV 2)) mNil))))) (mV 2) [2]) mNil)) (mC (.int 0)))))) sNil)
    (sThen (sIf (mOr (mTru (mApp isiOp (mCons (mV 1) (mCons (mC (.ty "bool")) mNil)))) (mTru (mApp isiOp (mCons (mV 0) (mCons (mC (.ty "bool")) mNil))))) (sRet (mAndV (mApp isiOp (mCons (mV 1) (mCons (mC (.ty "bool")) mNil))) (mAndV (mApp isiOp (mCons (mV 0) (mCons (mC (.ty "bool")) mNil))) (m2 eqOp (mV 0) (mV 1))))) sNil)
    (sThen (sIf (mOr (mB (m2 (isOp false) (mV 1) (mC .non))) (mB (m2 (isOp false) (mV 0) (mC .non)))) (sRet (mAndV (m2 (isOp false) (mV 1) (mC .non)) (m2 (isOp false) (mV 0) (mC .non)))) sNil)
    (sThen (sIf (mOr (mTru (mApp isiOp (mCons (mV 1) (mCons (mC (.ty "str")) mNil)))) (mTru (mApp isiOp (mCons (mV 0) (mCons (mC (.ty "str")) mNil))))) (sRet (mAndV (mApp isiOp (mCons (mV 1) (mCons (mC (.ty "str")) mNil))) (mAndV (mApp isiOp (mCons (mV 0) (mCons (mC (.ty "str")) mNil))) (m2 eqOp (mV 0) (mV 1))))) sNil)
    (sRet (mAndV (mApp isiOp (mCons (mV 0) (mCons (mC (.ty "int")) mNil))) (mAndV (mApp isiOp (mCons (mV 1) (mCons (mC (.ty "int")) mNil))) (m2 eqOp (mV 0) (mV 1)))))))))
noncomputable def F_law_same : Nat → FM
  | 0 => fun _ _ => .bad
  | k + 1 => callF false (m_law_same (F_law_same k)) 3
theorem sc_law_same : FnScope n_law_same ["actual", "expected"] (defScope s_law_same) := ⟨rfl, rfl, rfl, by decide +kernel, rfl, by decide +kernel, by decide +kernel⟩
theorem d_law_same {j : Nat} {Fr : FM} (T : Txt mg) (c_rec : Cb P w K mg base (0 + j) "_law_same" 2 Fr) (hr : Room (0 + j) (A.deeper (envOfC "_law_same" (defScope s_law_same) s.heap.objs.size f cdv))) : SSs WF (cxOf CX0 P w K mg base n_law_same "_law_same" (defScope s_law_same) f cdv A outer s H E).nox (defBody s_law_same) (m_law_same Fr) := by
  have h64 := u64 hr
  have h65 := u65 hr
  have h66 := u66 hr
  have nd := sc_law_same.nd
  exact (sss_cons (ss_if (st_w (stw_or (st_of (se_isi rfl T.b_isinstance (sa_cons (se_var 1) (sa_cons (se_bltn rfl T.b_tuple rfl rfl) sa_nil)))) (stw_or1 (st_of (se_isi rfl T.b_isinstance (sa_cons (se_var 1) (sa_cons (se_bltn rfl T.b_list rfl rfl) sa_nil))))))) (sss_cons (ss_if (st_w (stw_or (st_ne h64 (se_isi rfl T.b_isinstance (sa_cons (se_var 0) (sa_cons (se_bltn rfl T.b_tuple rfl rfl) sa_nil))) (se_isi rfl T.b_isinstance (sa_cons (se_var 1) (sa_cons (se_bltn rfl T.b_tuple rfl rfl) sa_nil)))) (stw_or1 (st_ne h64 (se_isi rfl T.b_isinstance (sa_cons (se_var 0) (sa_cons (se_bltn rfl T.b_list rfl rfl) sa_nil))) (se_isi rfl T.b_isinstance (sa_cons (se_var 1) (sa_cons (se_bltn rfl T.b_list rfl rfl) sa_nil))))))) (sss_one (ss_ret se_bl)) sss_nil)
    (sss_cons (ss_if (st_ne h64 (se_len rfl T.b_len (sa_cons (se_var 0) sa_nil)) (se_len rfl T.b_len (sa_cons (se_var 1) sa_nil))) (sss_one (ss_ret se_bl)) sss_nil)
    (sss_one (ss_ret (se_eq h64 (se_len rfl T.b_len (sa_cons (se_lc (own := [("k", 2)]) false rfl nd (si_rng1 rfl T.b_range (sa_cons (se_len rfl T.b_len (sa_cons (se_var 1) sa_nil)) sa_nil)) (blkOk_by (by first | (show blkC n_law_same (defScope s_law_same) _ _ = true; decide +kernel) | (show blkC n_law_same (relS _ (defScope s_law_same)) _ _ = true; decide +kernel))) (fun s H C cl fp => (sgo_name 2 rfl (by decide) nd)) (fun s H C cl fp => (sts_one (st_not (st_of (se_call c_rec hr rfl (sa_cons (se_ix h65 (se_var 0) (se_var 2)) (sa_cons (se_ix h65 (se_var 1) (se_var 2)) sa_nil)) rfl (mCons_len (mCons_len mNil_len))))))) (fun s H C cl fp => (se_var 2))) sa_nil)) se_int))))) sss_nil)
    (sss_cons (ss_if (st_w (stw_or (st_of (se_isi rfl T.b_isinstance (sa_cons (se_var 1) (sa_cons (se_bltn rfl T.b_bool rfl rfl) sa_nil)))) (stw_or1 (st_of (se_isi rfl T.b_isinstance (sa_cons (se_var 0) (sa_cons (se_bltn rfl T.b_bool rfl rfl) sa_nil))))))) (sss_one (ss_ret (se_and (se_isi rfl T.b_isinstance (sa_cons (se_var 1) (sa_cons (se_bltn rfl T.b_bool rfl rfl) sa_nil))) (se_and (se_isi rfl T.b_isinstance (sa_cons (se_var 0) (sa_cons (se_bltn rfl T.b_bool rfl rfl) sa_nil))) (se_one (se_eq h64 (se_var 0) (se_var 1))))))) sss_nil)
    (sss_cons (ss_if (st_w (stw_or (st_is (se_var 1) se_non) (stw_or1 (st_is (se_var 0) se_non)))) (sss_one (ss_ret (se_and (se_is (se_var 1) se_non) (se_one (se_is (se_var 0) se_non))))) sss_nil)
    (sss_cons (ss_if (st_w (stw_or (st_of (se_isi rfl T.b_isinstance (sa_cons (se_var 1) (sa_cons (se_bltn rfl T.b_str rfl rfl) sa_nil)))) (stw_or1 (st_of (se_isi rfl T.b_isinstance (sa_cons (se_var 0) (sa_cons (se_bltn rfl T.b_str rfl rfl) sa_nil))))))) (sss_one (ss_ret (se_and (se_isi rfl T.b_isinstance (sa_cons (se_var 1) (sa_cons (se_bltn rfl T.b_str rfl rfl) sa_nil))) (se_and (se_isi rfl T.b_isinstance (sa_cons (se_var 0) (sa_cons (se_bltn rfl T.b_str rfl rfl) sa_nil))) (se_one (se_eq h64 (se_var 0) (se_var 1))))))) sss_nil)
    (sss_one (ss_ret (se_and (se_isi rfl T.b_isinstance (sa_cons (se_var 0) (sa_cons (se_bltn rfl T.b_int rfl rfl) sa_nil))) (se_and (se_isi rfl T.b_isinstance (sa_cons (se_var 1) (sa_cons (se_bltn rfl T.b_int rfl rfl) sa_nil))) (se_one (se_eq h64 (se_var 0) (se_var 1)))))))))))
theorem c_law_same (Fn : Fun K "_law_same" "_law_same" s_law_same f fd) (hmg : mg "_law_same" = some (.ref f)) (T : Txt mg) : ∀ j, Cb P w K mg base (0 + j) "_law_same" 2 (F_law_same j)
  | 0 => ⟨⟨f, fd, ["actual", "expected"], (bad_ok (by rfl)), hmg, Fn.kp, (Fn.binds (ps := ["actual", "expected"]) fun _ _ _ _ _ _ us hl => match us, hl with | [_, _], _ => rfl)⟩⟩
  | j + 1 => ⟨⟨f, fd, ["actual", "expected"], fn_ok Fn sc_law_same (fun cdv A outer s H E hr => d_law_same T (c_law_same Fn hmg T j) hr), hmg, Fn.kp, (Fn.binds (ps := ["actual", "expected"]) fun _ _ _ _ _ _ us hl => match us, hl with | [_, _], _ => rfl)⟩⟩
/-! ### value_key -/
abbrev s_value_key : Stmt := top 1
abbrev n_value_key : List Str := ["value"]
noncomputable def m_value_key : SM := (sRet (mIf (mTru (mApp isiOp (mCons (mV 0) (mCons (mC (.ty "str")) mNil)))) (mApp tupOp (mCons (mC (.int 1)) (mCons (mC (.int 0)) (mCons (mV 0) mNil)))) (mApp tupOp (mCons (mC (.int 0)) (mCons (mV 0) (mCons (mC (.str (Str.ofString ""))) mNil))))))
noncomputable def F_value_key : FM := callF false m_value_key 1
theorem sc_value_key : FnScope n_value_key ["value"] (defScope s_value_key) := ⟨rfl, rfl, rfl, by decide +kernel, rfl, by decide +kernel, by decide +kernel⟩
theorem d_value_key (T : Txt mg) (hr : Room 0 (A.deeper (envOfC "value_key" (defScope s_value_key) s.heap.objs.size f cdv))) : SSs WF (cxOf CX0 P w K mg base n_value_key "value_key" (defScope s_value_key) f cdv A outer s H E).nox (defBody s_value_key) m_value_key := by
  have h64 := u64 hr
  have h65 := u65 hr
  have h66 := u66 hr
  have nd := sc_value_key.nd
  exact (sss_one (ss_ret (se_if (st_of (se_isi rfl T.b_isinstance (sa_cons (se_var 0) (sa_cons (se_bltn rfl T.b_str rfl rfl) sa_nil)))) (se_tup (sa_cons se_int (sa_cons se_int (sa_cons (se_var 0) sa_nil)))) (se_tup (sa_cons se_int (sa_cons (se_var 0) (sa_cons se_str sa_nil)))))))
theorem c_value_key (Fn : Fun K "value_key" "value_key" s_value_key f fd) (hmg : mg "value_key" = some (.ref f)) (T : Txt mg) : Cb P w K mg base 1 "value_key" 1 F_value_key :=
  ⟨⟨f, fd, ["value"], fn_ok Fn sc_value_key (fun cdv A outer s H E hr => d_value_key T hr), hmg, Fn.kp, (Fn.binds (ps := ["value"]) fun _ _ _ _ _ _ us hl => match us, hl with | [_], _ => rfl)⟩⟩
/-! ### pair_key -/
abbrev s_pair_key : Stmt := top 4
abbrev n_pair_key : List Str := ["row"]
noncomputable def m_pair_key : SM := (sRet (mApp tupOp (mCons (mCall F_value_key (mCons (m2 ixOp (mV 0) (mC (.int 0))) mNil)) (mCons (mCall F_value_key (mCons (m2 ixOp (mV 0) (mC (.int 1))) mNil)) mNil))))
noncomputable def F_pair_key : FM := callF false m_pair_key 1
theorem sc_pair_key : FnScope n_pair_key ["row"] (defScope s_pair_key) := ⟨rfl, rfl, rfl, by decide +kernel, rfl, by decide +kernel, by decide +kernel⟩
theorem d_pair_key (T : Txt mg) (c_value_key : Cb P w K mg base 1 "value_key" 1 F_value_key) (hr : Room 1 (A.deeper (envOfC "pair_key" (defScope s_pair_key) s.heap.objs.size f cdv))) : SSs WF (cxOf CX0 P w K mg base n_pair_key "pair_key" (defScope s_pair_key) f cdv A outer s H E).nox (defBody s_pair_key) m_pair_key := by
  have h64 := u64 hr
  have h65 := u65 hr
  have h66 := u66 hr
  have nd := sc_pair_key.nd
  exact (sss_one (ss_ret (se_tup (sa_cons (se_call (c_value_key.mono (by decide)) hr rfl (sa_cons (se_ix h65 (se_var 0) se_int) sa_nil) rfl (mCons_len mNil_len)) (sa_cons (se_call (c_value_key.mono (by decide)) hr rfl (sa_cons (se_ix h65 (se_var 0) se_int) sa_nil) rfl (mCons_len mNil_len)) sa_nil)))))
theorem c_pair_key (Fn : Fun K "pair_key" "pair_key" s_pair_key f fd) (hmg : mg "pair_key" = some (.ref f)) (T : Txt mg) (c_value_key : Cb P w K mg base 1 "value_key" 1 F_value_key) : Cb P w K mg base 2 "pair_key" 1 F_pair_key :=
  ⟨⟨f, fd, ["row"], fn_ok Fn sc_pair_key (fun cdv A outer s H E hr => d_pair_key T c_value_key hr), hmg, Fn.kp, (Fn.binds (ps := ["row"]) fun _ _ _ _ _ _ us hl => match us, hl with | [_], _ => rfl)⟩⟩
/-! ### moves_of -/
abbrev s_moves_of : Stmt := top 3
abbrev n_moves_of : List Str := ["facts", "found", "first", "other", "name", "row"]
noncomputable def m_moves_of : SM := (sThen (sAsg mDict0 (gN 1))
    (sThen (sFor (mIt (mApp (sortKOp false F_pair_key) (mCons (mLc false (mIt (mV 0)) (gT [(gN 4), (gN 5)]) (mB (m2 eqOp (mV 4) (mC (.str (Str.ofString "move"))))) (mV 5) [4, 5]) mNil))) (gT [(gN 2), (gN 3)]) (sThen (sExp (mMet .dic setdOp (mV 1) (mCons (mV 2) (mCons (mApp (lstOp true) mNil) mNil))))
    (sThen (sExp (mMet .dic setdOp (mV 1) (mCons (mV 3) (mCons (mApp (lstOp true) mNil) mNil))))
    (sIf (mB (m2 (inOp true) (mV 3) (m2 ixOp (mV 1) (mV 2)))) (sExp (mMet .lst appendOp (m2 ixOp (mV 1) (mV 2)) (mCons (mV 3) mNil))) sNil))))
    (sRet (mV 1))))
noncomputable def F_moves_of : FM := callG m_moves_of 6
theorem sc_moves_of : FnScope n_moves_of ["facts"] (defScope s_moves_of) := ⟨rfl, rfl, rfl, by decide +kernel, rfl, by decide +kernel, by decide +kernel⟩
theorem d_moves_of (T : Txt mg) (c_pair_key : Cb P w K mg base 2 "pair_key" 1 F_pair_key) (hr : Room 4 (A.deeper (envOfC "moves_of" (defScope s_moves_of) s.heap.objs.size f cdv))) : SSs WF (cxOf CX0 P w K mg base n_moves_of "moves_of" (defScope s_moves_of) f cdv A outer s H E).nox (defBody s_moves_of) m_moves_of := by
  have h64 := u64 hr
  have h65 := u65 hr
  have h66 := u66 hr
  have nd := sc_moves_of.nd
  exact (sss_cons (ss_asg se_dict0 (sg_name 1 nd))
    (sss_cons (ss_for PassesOwn.never rfl (si_any (se_sortFn false (c_pair_key.mono (by decide)) hr rfl h66 rfl T.b_sorted rfl (sa_cons (se_lc (own := [("name", 4), ("row", 5)]) false rfl nd (si_any (se_var 0)) (blkOk_by (by first | (show blkC n_moves_of (defScope s_moves_of) _ _ = true; decide +kernel) | (show blkC n_moves_of (relS _ (defScope s_moves_of)) _ _ = true; decide +kernel))) (fun s H C cl fp => (sgo_tup rfl (sgso_cons (sgo_name 4 rfl (by decide) nd) (sgso_cons (sgo_name 5 rfl (by decide) nd) sgso_nil)) rfl)) (fun s H C cl fp => (sts_one (st_eq h64 (se_var 4) se_str))) (fun s H C cl fp => (se_var 5))) sa_nil))) (sg_tup rfl (sgs_cons (sg_name 2 nd) (sgs_cons (sg_name 3 nd) sgs_nil)) (quiet_cons (gN_quiet 2) (quiet_cons (gN_quiet 3) (fun g hg => absurd hg (by simp)))) rfl) (sss_cons (ss_expr (se_setd (se_var 1) (sa_cons (se_var 2) (sa_cons (se_lst true sa_nil) sa_nil))))
    (sss_cons (ss_expr (se_setd (se_var 1) (sa_cons (se_var 3) (sa_cons (se_lst true sa_nil) sa_nil))))
    (sss_one (ss_if (st_notIn h65 (se_var 3) (se_ix h65 (se_var 1) (se_var 2))) (sss_one (ss_expr (se_append (se_ix h65 (se_var 1) (se_var 2)) (sa_cons (se_var 3) sa_nil)))) sss_nil)))))
    (sss_one (ss_ret (se_var 1)))))
theorem c_moves_of (Fn : Fun K "moves_of" "moves_of" s_moves_of f fd) (hmg : mg "moves_of" = some (.ref f)) (T : Txt mg) (c_pair_key : Cb P w K mg base 2 "pair_key" 1 F_pair_key) : Cb P w K mg base 5 "moves_of" 1 F_moves_of :=
  ⟨⟨f, fd, ["facts"], fn_okG Fn sc_moves_of (fun cdv A outer s H E hr => d_moves_of T c_pair_key hr), hmg, Fn.kp, (Fn.binds (ps := ["facts"]) fun _ _ _ _ _ _ us hl => match us, hl with | [_], _ => rfl)⟩⟩
/-! ### is_end -/
abbrev s_is_end : Stmt := top 10
abbrev n_is_end : List Str := ["word", "what"]
noncomputable def m_is_end : SM := (sThen (sIf (mOr (mNot (mTru (mApp isiOp (mCons (mV 1) (mCons (mC (.ty "tuple")) mNil))))) (mOr (mB (m2 neOp (mApp lenOp (mCons (mV 1) mNil)) (mC (.int 2)))) (mB (m2 neOp (m2 ixOp (mV 1) (mC (.int 0))) (mV 0))))) (sRet (mC (.bl false))) sNil)
    (sRet (mAndV (mApp isiOp (mCons (m2 ixOp (mV 1) (mC (.int 1))) (mCons (mC (.ty "int")) mNil))) (mAndV (mNotV (mApp isiOp (mCons (m2 ixOp (mV 1) (mC (.int 1))) (mCons (mC (.ty "bool")) mNil)))) (m2 geOp (m2 ixOp (mV 1) (mC (.int 1))) (mC (.int 0)))))))
noncomputable def F_is_end : FM := callF false m_is_end 2
theorem sc_is_end : FnScope n_is_end ["word", "what"] (defScope s_is_end) := ⟨rfl, rfl, rfl, by decide +kernel, rfl, by decide +kernel, by decide +kernel⟩
theorem d_is_end (T : Txt mg) (hr : Room 0 (A.deeper (envOfC "is_end" (defScope s_is_end) s.heap.objs.size f cdv))) : SSs WF (cxOf CX0 P w K mg base n_is_end "is_end" (defScope s_is_end) f cdv A outer s H E).nox (defBody s_is_end) m_is_end := by
  have h64 := u64 hr
  have h65 := u65 hr
  have h66 := u66 hr
  have nd := sc_is_end.nd
  exact (sss_cons (ss_if (st_w (stw_or (st_not (st_of (se_isi rfl T.b_isinstance (sa_cons (se_var 1) (sa_cons (se_bltn rfl T.b_tuple rfl rfl) sa_nil))))) (stw_or (st_ne h64 (se_len rfl T.b_len (sa_cons (se_var 1) sa_nil)) se_int) (stw_or1 (st_ne h64 (se_ix h65 (se_var 1) se_int) (se_var 0)))))) (sss_one (ss_ret se_bl)) sss_nil)
    (sss_one (ss_ret (se_and (se_isi rfl T.b_isinstance (sa_cons (se_ix h65 (se_var 1) se_int) (sa_cons (se_bltn rfl T.b_int rfl rfl) sa_nil))) (se_and (se_not (se_isi rfl T.b_isinstance (sa_cons (se_ix h65 (se_var 1) se_int) (sa_cons (se_bltn rfl T.b_bool rfl rfl) sa_nil)))) (se_one (se_ge (se_ix h65 (se_var 1) se_int) se_int)))))))
theorem c_is_end (Fn : Fun K "is_end" "is_end" s_is_end f fd) (hmg : mg "is_end" = some (.ref f)) (T : Txt mg) : Cb P w K mg base 1 "is_end" 2 F_is_end :=
  ⟨⟨f, fd, ["word", "what"], fn_ok Fn sc_is_end (fun cdv A outer s H E hr => d_is_end T hr), hmg, Fn.kp, (Fn.binds (ps := ["word", "what"]) fun _ _ _ _ _ _ us hl => match us, hl with | [_, _], _ => rfl)⟩⟩
/-! ### place_right -/
abbrev s_place_right : Stmt := top 9
abbrev n_place_right : List Str := ["worth", "mine", "ends", "lost", "end"]
noncomputable def m_place_right : SM := (sThen (sIf (mB (m2 eqOp (mV 1) (mApp tupOp (mCons (mC (.str (Str.ofString "draw"))) mNil)))) (sRet (mAndV (m2 (inOp false) (mApp tupOp (mCons (mC (.str (Str.ofString "draw"))) mNil)) (mV 2)) (mNotV (mApp anyOp (mCons (mLc false (mIt (mV 2)) (gN 4) tYesM (mCall F_is_end (mCons (mC (.str (Str.ofString "lose"))) (mCons (mV 4) mNil))) [4]) mNil))))) sNil)
    (sThen (sIf (mTru (mCall F_is_end (mCons (mC (.str (Str.ofString "win"))) (mCons (mV 1) mNil)))) (sThen (sAsg (mLc false (mIt (mV 2)) (gN 4) (mTru (mCall F_is_end (mCons (mC (.str (Str.ofString "lose"))) (mCons (mV 4) mNil)))) (m2 ixOp (mV 4) (mC (.int 1))) [4]) (gN 3))
    (sRet (mAndV (m2 gtOp (mApp lenOp (mCons (mV 3) mNil)) (mC (.int 0))) (m2 eqOp (m2 ixOp (mV 1) (mC (.int 1))) (m2 (addOp false) (mC (.int 1)) (mApp min1Op (mCons (mV 3) mNil))))))) sNil)
    (sThen (sIf (mOr (mNot (mTru (mCall F_is_end (mCons (mC (.str (Str.ofString "lose"))) (mCons (mV 1) mNil))))) (mNot (mTru (mApp allOp (mCons (mLc false (mIt (mV 2)) (gN 4) tYesM (mCall F_is_end (mCons (mC (.str (Str.ofString "win"))) (mCons (mV 4) mNil))) [4]) mNil))))) (sRet (mC (.bl false))) sNil)
    (sRet (m2 eqOp (m2 ixOp (mV 1) (mC (.int 1))) (mIf (mB (m2 gtOp (mApp lenOp (mCons (mV 2) mNil)) (mC (.int 0)))) (m2 (addOp false) (mC (.int 1)) (mApp max1Op (mCons (mLc false (mIt (mV 2)) (gN 4) tYesM (m2 ixOp (mV 4) (mC (.int 1))) [4]) mNil))) (mC (.int 0))))))))
noncomputable def F_place_right : FM := callF false m_place_right 5
theorem sc_place_right : FnScope n_place_right ["worth", "mine", "ends"] (defScope s_place_right) := ⟨rfl, rfl, rfl, by decide +kernel, rfl, by decide +kernel, by decide +kernel⟩
theorem d_place_right (T : Txt mg) (c_is_end : Cb P w K mg base 1 "is_end" 2 F_is_end) (hr : Room 1 (A.deeper (envOfC "place_right" (defScope s_place_right) s.heap.objs.size f cdv))) : SSs WF (cxOf CX0 P w K mg base n_place_right "place_right" (defScope s_place_right) f cdv A outer s H E).nox (defBody s_place_right) m_place_right := by
  have h64 := u64 hr
  have h65 := u65 hr
  have h66 := u66 hr
  have nd := sc_place_right.nd
  exact (sss_cons (ss_if (st_eq h64 (se_var 1) (se_tup (sa_cons se_str sa_nil))) (sss_one (ss_ret (se_and (se_in h65 (se_tup (sa_cons se_str sa_nil)) (se_var 2)) (se_one (se_not (se_any rfl rfl T.b_any (sa_cons (se_lc (own := [("end", 4)]) false rfl nd (si_any (se_var 2)) (blkOk_by (by first | (show blkC n_place_right (defScope s_place_right) _ _ = true; decide +kernel) | (show blkC n_place_right (relS _ (defScope s_place_right)) _ _ = true; decide +kernel))) (fun s H C cl fp => (sgo_name 4 rfl (by decide) nd)) (fun s H C cl fp => sts_nil) (fun s H C cl fp => (se_call (c_is_end.mono (by decide)) hr rfl (sa_cons se_str (sa_cons (se_var 4) sa_nil)) rfl (mCons_len (mCons_len mNil_len))))) sa_nil))))))) sss_nil)
    (sss_cons (ss_if (st_of (se_call (c_is_end.mono (by decide)) hr rfl (sa_cons se_str (sa_cons (se_var 1) sa_nil)) rfl (mCons_len (mCons_len mNil_len)))) (sss_cons (ss_setLc (own := [("end", 4)]) false rfl nd rfl rfl rfl (si_any (se_var 2)) (blkOk_by (by first | (show blkC n_place_right (defScope s_place_right) _ _ = true; decide +kernel) | (show blkC n_place_right (relS _ (defScope s_place_right)) _ _ = true; decide +kernel))) (fun s H C cl fp => (sgo_name 4 rfl (by decide) nd)) (fun s H C cl fp => (sts_one (st_of (se_call (c_is_end.mono (by decide)) hr rfl (sa_cons se_str (sa_cons (se_var 4) sa_nil)) rfl (mCons_len (mCons_len mNil_len)))))) (fun s H C cl fp => (se_ix h65 (se_var 4) se_int)))
    (sss_one (ss_ret (se_and (se_gt (se_len rfl T.b_len (sa_cons (se_var 3) sa_nil)) se_int) (se_one (se_eq h64 (se_ix h65 (se_var 1) se_int) (se_add false se_int (se_min1 rfl rfl T.b_min (sa_cons (se_var 3) sa_nil))))))))) sss_nil)
    (sss_cons (ss_if (st_w (stw_or (st_not (st_of (se_call (c_is_end.mono (by decide)) hr rfl (sa_cons se_str (sa_cons (se_var 1) sa_nil)) rfl (mCons_len (mCons_len mNil_len))))) (stw_or1 (st_not (st_of (se_all rfl rfl T.b_all (sa_cons (se_lc (own := [("end", 4)]) false rfl nd (si_any (se_var 2)) (blkOk_by (by first | (show blkC n_place_right (defScope s_place_right) _ _ = true; decide +kernel) | (show blkC n_place_right (relS _ (defScope s_place_right)) _ _ = true; decide +kernel))) (fun s H C cl fp => (sgo_name 4 rfl (by decide) nd)) (fun s H C cl fp => sts_nil) (fun s H C cl fp => (se_call (c_is_end.mono (by decide)) hr rfl (sa_cons se_str (sa_cons (se_var 4) sa_nil)) rfl (mCons_len (mCons_len mNil_len))))) sa_nil))))))) (sss_one (ss_ret se_bl)) sss_nil)
    (sss_one (ss_ret (se_eq h64 (se_ix h65 (se_var 1) se_int) (se_if (st_gt (se_len rfl T.b_len (sa_cons (se_var 2) sa_nil)) se_int) (se_add false se_int (se_max1 rfl rfl T.b_max (sa_cons (se_lc (own := [("end", 4)]) false rfl nd (si_any (se_var 2)) (blkOk_by (by first | (show blkC n_place_right (defScope s_place_right) _ _ = true; decide +kernel) | (show blkC n_place_right (relS _ (defScope s_place_right)) _ _ = true; decide +kernel))) (fun s H C cl fp => (sgo_name 4 rfl (by decide) nd)) (fun s H C cl fp => sts_nil) (fun s H C cl fp => (se_ix h65 (se_var 4) se_int))) sa_nil))) se_int)))))))
theorem c_place_right (Fn : Fun K "place_right" "place_right" s_place_right f fd) (hmg : mg "place_right" = some (.ref f)) (T : Txt mg) (c_is_end : Cb P w K mg base 1 "is_end" 2 F_is_end) : Cb P w K mg base 2 "place_right" 3 F_place_right :=
  ⟨⟨f, fd, ["worth", "mine", "ends"], fn_ok Fn sc_place_right (fun cdv A outer s H E hr => d_place_right T c_is_end hr), hmg, Fn.kp, (Fn.binds (ps := ["worth", "mine", "ends"]) fun _ _ _ _ _ _ us hl => match us, hl with | [_, _, _], _ => rfl)⟩⟩
/-! ### outcomes_right -/
abbrev s_outcomes_right : Stmt := top 8
abbrev n_outcomes_right : List Str := ["facts", "pairs", "table", "worth", "place", "pair", "other"]
noncomputable def m_outcomes_right : SM := (sThen (sAsg (mCall F_moves_of (mCons (mV 0) mNil)) (gN 2))
    (sThen (sIf (mOr (mNot (mTru (mApp isiOp (mCons (mV 1) (mCons (mC (.ty "tuple")) mNil))))) (mNot (mTru (mApp allOp (mCons (mLc false (mIt (mV 1)) (gN 5) tYesM (mAndV (mApp isiOp (mCons (mV 5) (mCons (mC (.ty "tuple")) mNil))) (m2 eqOp (mApp lenOp (mCons (mV 5) mNil)) (mC (.int 2)))) [5]) mNil))))) (sRet (mC (.bl false))) sNil)
    (sThen (sIf (mB (m2 neOp (mApp tupleOp (mCons (mLc false (mIt (mV 1)) (gN 5) tYesM (m2 ixOp (mV 5) (mC (.int 0))) [5]) mNil)) (mApp tupleOp (mCons (mApp (sortKOp false F_value_key) (mCons (mV 2) mNil)) mNil)))) (sRet (mC (.bl false))) sNil)
    (sThen (sAsg (mApp dictOp (mCons (mV 1) mNil)) (gN 3))
    (sRet (mApp allOp (mCons (mLc false (mIt (mV 2)) (gN 4) tYesM (mCall F_place_right (mCons (mV 3) (mCons (m2 ixOp (mV 3) (mV 4)) (mCons (mLc false (mIt (m2 ixOp (mV 2) (mV 4))) (gN 6) tYesM (m2 ixOp (mV 3) (mV 6)) [6]) mNil)))) [4]) mNil)))))))
noncomputable def F_outcomes_right : FM := callF false m_outcomes_right 7
theorem sc_outcomes_right : FnScope n_outcomes_right ["facts", "pairs"] (defScope s_outcomes_right) := ⟨rfl, rfl, rfl, by decide +kernel, rfl, by decide +kernel, by decide +kernel⟩
theorem d_outcomes_right (T : Txt mg) (c_moves_of : Cb P w K mg base 5 "moves_of" 1 F_moves_of) (c_place_right : Cb P w K mg base 2 "place_right" 3 F_place_right) (c_value_key : Cb P w K mg base 1 "value_key" 1 F_value_key) (hr : Room 5 (A.deeper (envOfC "outcomes_right" (defScope s_outcomes_right) s.heap.objs.size f cdv))) : SSs WF (cxOf CX0 P w K mg base n_outcomes_right "outcomes_right" (defScope s_outcomes_right) f cdv A outer s H E).nox (defBody s_outcomes_right) m_outcomes_right := by
  have h64 := u64 hr
  have h65 := u65 hr
  have h66 := u66 hr
  have nd := sc_outcomes_right.nd
  exact (sss_cons (ss_asg (se_call (c_moves_of.mono (by decide)) hr rfl (sa_cons (se_var 0) sa_nil) rfl (mCons_len mNil_len)) (sg_name 2 nd))
    (sss_cons (ss_if (st_w (stw_or (st_not (st_of (se_isi rfl T.b_isinstance (sa_cons (se_var 1) (sa_cons (se_bltn rfl T.b_tuple rfl rfl) sa_nil))))) (stw_or1 (st_not (st_of (se_all rfl rfl T.b_all (sa_cons (se_lc (own := [("pair", 5)]) false rfl nd (si_any (se_var 1)) (blkOk_by (by first | (show blkC n_outcomes_right (defScope s_outcomes_right) _ _ = true; decide +kernel) | (show blkC n_outcomes_right (relS _ (defScope s_outcomes_right)) _ _ = true; decide +kernel))) (fun s H C cl fp => (sgo_name 5 rfl (by decide) nd)) (fun s H C cl fp => sts_nil) (fun s H C cl fp => (se_and (se_isi rfl T.b_isinstance (sa_cons (se_var 5) (sa_cons (se_bltn rfl T.b_tuple rfl rfl) sa_nil))) (se_one (se_eq h64 (se_len rfl T.b_len (sa_cons (se_var 5) sa_nil)) se_int))))) sa_nil))))))) (sss_one (ss_ret se_bl)) sss_nil)
    (sss_cons (ss_if (st_ne h64 (se_tupC rfl T.b_tuple (sa_cons (se_lc (own := [("pair", 5)]) false rfl nd (si_any (se_var 1)) (blkOk_by (by first | (show blkC n_outcomes_right (defScope s_outcomes_right) _ _ = true; decide +kernel) | (show blkC n_outcomes_right (relS _ (defScope s_outcomes_right)) _ _ = true; decide +kernel))) (fun s H C cl fp => (sgo_name 5 rfl (by decide) nd)) (fun s H C cl fp => sts_nil) (fun s H C cl fp => (se_ix h65 (se_var 5) se_int))) sa_nil)) (se_tupC rfl T.b_tuple (sa_cons (se_sortFn false (c_value_key.mono (by decide)) hr rfl h66 rfl T.b_sorted rfl (sa_cons (se_var 2) sa_nil)) sa_nil))) (sss_one (ss_ret se_bl)) sss_nil)
    (sss_cons (ss_asg (se_dict rfl rfl T.b_dict (sa_cons (se_var 1) sa_nil)) (sg_name 3 nd))
    (sss_one (ss_ret (se_all rfl rfl T.b_all (sa_cons (se_lc (own := [("place", 4)]) false rfl nd (si_any (se_var 2)) (blkOk_by (by first | (show blkC n_outcomes_right (defScope s_outcomes_right) _ _ = true; decide +kernel) | (show blkC n_outcomes_right (relS _ (defScope s_outcomes_right)) _ _ = true; decide +kernel))) (fun s H C cl fp => (sgo_name 4 rfl (by decide) nd)) (fun s H C cl fp => sts_nil) (fun s H C cl fp => (se_call (c_place_right.mono (by decide)) hr rfl (sa_cons (se_var 3) (sa_cons (se_ix h65 (se_var 3) (se_var 4)) (sa_cons (se_lc (own := [("other", 6)]) false rfl nd (si_any (se_ix h65 (se_var 2) (se_var 4))) (blkOk_by (by first | (show blkC n_outcomes_right (defScope s_outcomes_right) _ _ = true; decide +kernel) | (show blkC n_outcomes_right (relS _ (defScope s_outcomes_right)) _ _ = true; decide +kernel))) (fun s H C cl fp => (sgo_name 6 rfl (by decide) nd)) (fun s H C cl fp => sts_nil) (fun s H C cl fp => (se_ix h65 (se_var 3) (se_var 6)))) sa_nil))) rfl (mCons_len (mCons_len (mCons_len mNil_len)))))) sa_nil))))))))
theorem c_outcomes_right (Fn : Fun K "outcomes_right" "outcomes_right" s_outcomes_right f fd) (hmg : mg "outcomes_right" = some (.ref f)) (T : Txt mg) (c_moves_of : Cb P w K mg base 5 "moves_of" 1 F_moves_of) (c_place_right : Cb P w K mg base 2 "place_right" 3 F_place_right) (c_value_key : Cb P w K mg base 1 "value_key" 1 F_value_key) : Cb P w K mg base 6 "outcomes_right" 2 F_outcomes_right :=
  ⟨⟨f, fd, ["facts", "pairs"], fn_ok Fn sc_outcomes_right (fun cdv A outer s H E hr => d_outcomes_right T c_moves_of c_place_right c_value_key hr), hmg, Fn.kp, (Fn.binds (ps := ["facts", "pairs"]) fun _ _ _ _ _ _ us hl => match us, hl with | [_, _], _ => rfl)⟩⟩
/-! ### settled -/
abbrev s_settled : Stmt := top 5
abbrev n_settled : List Str := ["table", "found", "count", "idle", "fresh", "place", "ends", "other"]
noncomputable def m_settled : SM := (sThen (sAsg mDict0 (gN 1))
    (sThen (sAsg (mC (.int 0)) (gN 2))
    (sThen (sAsg (mC (.int 0)) (gN 3))
    (sThen (whL (mB (m2 ltOp (mV 3) (mC (.int 2)))) (sThen (sAsg mDict0 (gN 4))
    (sThen (sFor (mIt (mV 0)) (gN 5) (sThen (sAsg (mLc false (mIt (m2 ixOp (mV 0) (mV 5))) (gN 7) (mB (m2 (inOp false) (mV 7) (mV 1))) (m2 ixOp (m2 ixOp (mV 1) (mV 7)) (mC (.int 0))) [7]) (gN 6))
    (sIf (mAnd (mB (m2 (inOp true) (mV 5) (mV 1))) (mAnd (mB (m2 eqOp (m2 modOp (mV 2) (mC (.int 2))) (mC (.int 0)))) (mB (m2 eqOp (mV 6) (m2 (repOp false) (mApp (lstOp false) (mCons (mC (.str (Str.ofString "win"))) mNil)) (mApp lenOp (mCons (m2 ixOp (mV 0) (mV 5)) mNil))))))) (sAsg (mApp tupOp (mCons (mC (.str (Str.ofString "lose"))) (mCons (mV 2) mNil))) (gSetA (mV 4) (mV 5))) (sIf (mAnd (mB (m2 (inOp true) (mV 5) (mV 1))) (mAnd (mB (m2 eqOp (m2 modOp (mV 2) (mC (.int 2))) (mC (.int 1)))) (mB (m2 (inOp false) (mC (.str (Str.ofString "lose"))) (mV 6))))) (sAsg (mApp tupOp (mCons (mC (.str (Str.ofString "win"))) (mCons (mV 2) mNil))) (gSetA (mV 4) (mV 5))) sNil))))
    (sThen (sAsg (mIf (mB (m2 gtOp (mApp lenOp (mCons (mV 4) mNil)) (mC (.int 0)))) (mC (.int 0)) (m2 (addOp false) (mV 3) (mC (.int 1)))) (gN 3))
    (sThen (sExp (mMet .dic updOp (mV 1) (mCons (mV 4) mNil)))
    (sAug 2 (fun i j => i + j) (mC (.int 1))))))) 100)
    (sRet (mV 1))))))
noncomputable def F_settled : FM := callG m_settled 8
theorem sc_settled : FnScope n_settled ["table"] (defScope s_settled) := ⟨rfl, rfl, rfl, by decide +kernel, rfl, by decide +kernel, by decide +kernel⟩
theorem d_settled (T : Txt mg) (hr : Room 0 (A.deeper (envOfC "settled" (defScope s_settled) s.heap.objs.size f cdv))) : SSs WF (cxOf CX0 P w K mg base n_settled "settled" (defScope s_settled) f cdv A outer s H E).nox (defBody s_settled) m_settled := by
  have h64 := u64 hr
  have h65 := u65 hr
  have h66 := u66 hr
  have nd := sc_settled.nd
  exact (sss_cons (ss_asg se_dict0 (sg_name 1 nd))
    (sss_cons (ss_asg se_int (sg_name 2 nd))
    (sss_cons (ss_asg se_int (sg_name 3 nd))
    (sss_cons (ss_while 100 PassesOwn.never (st_lt (se_var 3) se_int) (sss_cons (ss_asg se_dict0 (sg_name 4 nd))
    (sss_cons (ss_for PassesOwn.never rfl (si_any (se_var 0)) (sg_name 5 nd) (sss_cons (ss_setLc (own := [("other", 7)]) false rfl nd rfl rfl rfl (si_any (se_ix h65 (se_var 0) (se_var 5))) (blkOk_by (by first | (show blkC n_settled (defScope s_settled) _ _ = true; decide +kernel) | (show blkC n_settled (relS _ (defScope s_settled)) _ _ = true; decide +kernel))) (fun s H C cl fp => (sgo_name 7 rfl (by decide) nd)) (fun s H C cl fp => (sts_one (st_in h65 (se_var 7) (se_var 1)))) (fun s H C cl fp => (se_ix h65 (se_ix h65 (se_var 1) (se_var 7)) se_int)))
    (sss_one (ss_if (st_w (stw_and (st_notIn h65 (se_var 5) (se_var 1)) (stw_and (st_eq h64 (se_mod (se_var 2) se_int) se_int) (stw_and1 (st_eq h64 (se_var 6) (se_rep false (se_lst false (sa_cons se_str sa_nil)) (se_len rfl T.b_len (sa_cons (se_ix h65 (se_var 0) (se_var 5)) sa_nil)))))))) (sss_one (ss_asg (se_tup (sa_cons se_str (sa_cons (se_var 2) sa_nil))) (sg_setA h65 (se_var 4) (se_var 5)))) (sss_one (ss_if (st_w (stw_and (st_notIn h65 (se_var 5) (se_var 1)) (stw_and (st_eq h64 (se_mod (se_var 2) se_int) se_int) (stw_and1 (st_in h65 se_str (se_var 6)))))) (sss_one (ss_asg (se_tup (sa_cons se_str (sa_cons (se_var 2) sa_nil))) (sg_setA h65 (se_var 4) (se_var 5)))) sss_nil))))))
    (sss_cons (ss_asg (se_if (st_gt (se_len rfl T.b_len (sa_cons (se_var 4) sa_nil)) se_int) se_int (se_add false (se_var 3) se_int)) (sg_name 3 nd))
    (sss_cons (ss_expr (se_upd (se_var 1) (sa_cons (se_var 4) sa_nil)))
    (sss_one (ss_augAdd (i := 2) nd se_int)))))))
    (sss_one (ss_ret (se_var 1)))))))
theorem c_settled (Fn : Fun K "settled" "settled" s_settled f fd) (hmg : mg "settled" = some (.ref f)) (T : Txt mg) : Cb P w K mg base 1 "settled" 1 F_settled :=
  ⟨⟨f, fd, ["table"], fn_okG Fn sc_settled (fun cdv A outer s H E hr => d_settled T hr), hmg, Fn.kp, (Fn.binds (ps := ["table"]) fun _ _ _ _ _ _ us hl => match us, hl with | [_], _ => rfl)⟩⟩
/-! ### outcomes -/
abbrev s_outcomes : Stmt := top 6
abbrev n_outcomes : List Str := ["facts", "table", "found", "place"]
noncomputable def m_outcomes : SM := (sThen (sAsg (mCall F_moves_of (mCons (mV 0) mNil)) (gN 1))
    (sThen (sAsg (mCall F_settled (mCons (mV 1) mNil)) (gN 2))
    (sRet (mApp tupleOp (mCons (mLc false (mIt (mApp (sortKOp false F_value_key) (mCons (mV 1) mNil))) (gN 3) tYesM (mApp tupOp (mCons (mV 3) (mCons (mMet .dic getOp (mV 2) (mCons (mV 3) (mCons (mApp tupOp (mCons (mC (.str (Str.ofString "draw"))) mNil)) mNil))) mNil))) [3]) mNil)))))
noncomputable def F_outcomes : FM := callF false m_outcomes 4
theorem sc_outcomes : FnScope n_outcomes ["facts"] (defScope s_outcomes) := ⟨rfl, rfl, rfl, by decide +kernel, rfl, by decide +kernel, by decide +kernel⟩
theorem d_outcomes (T : Txt mg) (c_moves_of : Cb P w K mg base 5 "moves_of" 1 F_moves_of) (c_settled : Cb P w K mg base 1 "settled" 1 F_settled) (c_value_key : Cb P w K mg base 1 "value_key" 1 F_value_key) (hr : Room 5 (A.deeper (envOfC "outcomes" (defScope s_outcomes) s.heap.objs.size f cdv))) : SSs WF (cxOf CX0 P w K mg base n_outcomes "outcomes" (defScope s_outcomes) f cdv A outer s H E).nox (defBody s_outcomes) m_outcomes := by
  have h64 := u64 hr
  have h65 := u65 hr
  have h66 := u66 hr
  have nd := sc_outcomes.nd
  exact (sss_cons (ss_asg (se_call (c_moves_of.mono (by decide)) hr rfl (sa_cons (se_var 0) sa_nil) rfl (mCons_len mNil_len)) (sg_name 1 nd))
    (sss_cons (ss_asg (se_call (c_settled.mono (by decide)) hr rfl (sa_cons (se_var 1) sa_nil) rfl (mCons_len mNil_len)) (sg_name 2 nd))
    (sss_one (ss_ret (se_tupC rfl T.b_tuple (sa_cons (se_lc (own := [("place", 3)]) false rfl nd (si_any (se_sortFn false (c_value_key.mono (by decide)) hr rfl h66 rfl T.b_sorted rfl (sa_cons (se_var 1) sa_nil))) (blkOk_by (by first | (show blkC n_outcomes (defScope s_outcomes) _ _ = true; decide +kernel) | (show blkC n_outcomes (relS _ (defScope s_outcomes)) _ _ = true; decide +kernel))) (fun s H C cl fp => (sgo_name 3 rfl (by decide) nd)) (fun s H C cl fp => sts_nil) (fun s H C cl fp => (se_tup (sa_cons (se_var 3) (sa_cons (se_get h65 (se_var 2) (sa_cons (se_var 3) (sa_cons (se_tup (sa_cons se_str sa_nil)) sa_nil))) sa_nil))))) sa_nil))))))
theorem c_outcomes (Fn : Fun K "outcomes" "outcomes" s_outcomes f fd) (hmg : mg "outcomes" = some (.ref f)) (T : Txt mg) (c_moves_of : Cb P w K mg base 5 "moves_of" 1 F_moves_of) (c_settled : Cb P w K mg base 1 "settled" 1 F_settled) (c_value_key : Cb P w K mg base 1 "value_key" 1 F_value_key) : Cb P w K mg base 6 "outcomes" 1 F_outcomes :=
  ⟨⟨f, fd, ["facts"], fn_ok Fn sc_outcomes (fun cdv A outer s H E hr => d_outcomes T c_moves_of c_settled c_value_key hr), hmg, Fn.kp, (Fn.binds (ps := ["facts"]) fun _ _ _ _ _ _ us hl => match us, hl with | [_], _ => rfl)⟩⟩
/-! ### good_moves -/
abbrev s_good_moves : Stmt := top 7
abbrev n_good_moves : List Str := ["facts", "place", "table", "found", "mine", "other"]
noncomputable def m_good_moves : SM := (sThen (sAsg (mCall F_moves_of (mCons (mV 0) mNil)) (gN 2))
    (sThen (sAsg (mCall F_settled (mCons (mV 2) mNil)) (gN 3))
    (sThen (sAsg (mMet .dic getOp (mV 3) (mCons (mV 1) (mCons (mApp tupOp (mCons (mC (.str (Str.ofString "draw"))) mNil)) mNil))) (gN 4))
    (sThen (sIf (mB (m2 eqOp (m2 ixOp (mV 4) (mC (.int 0))) (mC (.str (Str.ofString "lose"))))) (sRet (mApp tupleOp (mCons (mLc false (mIt (mMet .dic getOp (mV 2) (mCons (mV 1) (mCons (mApp (lstOp false) mNil) mNil)))) (gN 5) (mB (m2 eqOp (m2 ixOp (mV 3) (mV 5)) (mApp tupOp (mCons (mC (.str (Str.ofString "win"))) (mCons (m2 subOp (m2 ixOp (mV 4) (mC (.int 1))) (mC (.int 1))) mNil))))) (mV 5) [5]) mNil))) sNil)
    (sThen (sIf (mB (m2 eqOp (m2 ixOp (mV 4) (mC (.int 0))) (mC (.str (Str.ofString "win"))))) (sRet (mApp tupleOp (mCons (mLc false (mIt (m2 ixOp (mV 2) (mV 1))) (gN 5) (mB (m2 eqOp (mMet .dic getOp (mV 3) (mCons (mV 5) mNil)) (mApp tupOp (mCons (mC (.str (Str.ofString "lose"))) (mCons (m2 subOp (m2 ixOp (mV 4) (mC (.int 1))) (mC (.int 1))) mNil))))) (mV 5) [5]) mNil))) sNil)
    (sRet (mApp tupleOp (mCons (mLc false (mIt (mMet .dic getOp (mV 2) (mCons (mV 1) (mCons (mApp (lstOp false) mNil) mNil)))) (gN 5) (mB (m2 (inOp true) (mV 5) (mV 3))) (mV 5) [5]) mNil))))))))
noncomputable def F_good_moves : FM := callF false m_good_moves 6
theorem sc_good_moves : FnScope n_good_moves ["facts", "place"] (defScope s_good_moves) := ⟨rfl, rfl, rfl, by decide +kernel, rfl, by decide +kernel, by decide +kernel⟩
theorem d_good_moves (T : Txt mg) (c_moves_of : Cb P w K mg base 5 "moves_of" 1 F_moves_of) (c_settled : Cb P w K mg base 1 "settled" 1 F_settled) (hr : Room 5 (A.deeper (envOfC "good_moves" (defScope s_good_moves) s.heap.objs.size f cdv))) : SSs WF (cxOf CX0 P w K mg base n_good_moves "good_moves" (defScope s_good_moves) f cdv A outer s H E).nox (defBody s_good_moves) m_good_moves := by
  have h64 := u64 hr
  have h65 := u65 hr
  have h66 := u66 hr
  have nd := sc_good_moves.nd
  exact (sss_cons (ss_asg (se_call (c_moves_of.mono (by decide)) hr rfl (sa_cons (se_var 0) sa_nil) rfl (mCons_len mNil_len)) (sg_name 2 nd))
    (sss_cons (ss_asg (se_call (c_settled.mono (by decide)) hr rfl (sa_cons (se_var 2) sa_nil) rfl (mCons_len mNil_len)) (sg_name 3 nd))
    (sss_cons (ss_asg (se_get h65 (se_var 3) (sa_cons (se_var 1) (sa_cons (se_tup (sa_cons se_str sa_nil)) sa_nil))) (sg_name 4 nd))
    (sss_cons (ss_if (st_eq h64 (se_ix h65 (se_var 4) se_int) se_str) (sss_one (ss_ret (se_tupC rfl T.b_tuple (sa_cons (se_lc (own := [("other", 5)]) false rfl nd (si_any (se_get h65 (se_var 2) (sa_cons (se_var 1) (sa_cons (se_lst false sa_nil) sa_nil)))) (blkOk_by (by first | (show blkC n_good_moves (defScope s_good_moves) _ _ = true; decide +kernel) | (show blkC n_good_moves (relS _ (defScope s_good_moves)) _ _ = true; decide +kernel))) (fun s H C cl fp => (sgo_name 5 rfl (by decide) nd)) (fun s H C cl fp => (sts_one (st_eq h64 (se_ix h65 (se_var 3) (se_var 5)) (se_tup (sa_cons se_str (sa_cons (se_sub (se_ix h65 (se_var 4) se_int) se_int) sa_nil)))))) (fun s H C cl fp => (se_var 5))) sa_nil)))) sss_nil)
    (sss_cons (ss_if (st_eq h64 (se_ix h65 (se_var 4) se_int) se_str) (sss_one (ss_ret (se_tupC rfl T.b_tuple (sa_cons (se_lc (own := [("other", 5)]) false rfl nd (si_any (se_ix h65 (se_var 2) (se_var 1))) (blkOk_by (by first | (show blkC n_good_moves (defScope s_good_moves) _ _ = true; decide +kernel) | (show blkC n_good_moves (relS _ (defScope s_good_moves)) _ _ = true; decide +kernel))) (fun s H C cl fp => (sgo_name 5 rfl (by decide) nd)) (fun s H C cl fp => (sts_one (st_eq h64 (se_get h65 (se_var 3) (sa_cons (se_var 5) sa_nil)) (se_tup (sa_cons se_str (sa_cons (se_sub (se_ix h65 (se_var 4) se_int) se_int) sa_nil)))))) (fun s H C cl fp => (se_var 5))) sa_nil)))) sss_nil)
    (sss_one (ss_ret (se_tupC rfl T.b_tuple (sa_cons (se_lc (own := [("other", 5)]) false rfl nd (si_any (se_get h65 (se_var 2) (sa_cons (se_var 1) (sa_cons (se_lst false sa_nil) sa_nil)))) (blkOk_by (by first | (show blkC n_good_moves (defScope s_good_moves) _ _ = true; decide +kernel) | (show blkC n_good_moves (relS _ (defScope s_good_moves)) _ _ = true; decide +kernel))) (fun s H C cl fp => (sgo_name 5 rfl (by decide) nd)) (fun s H C cl fp => (sts_one (st_notIn h65 (se_var 5) (se_var 3)))) (fun s H C cl fp => (se_var 5))) sa_nil)))))))))
theorem c_good_moves (Fn : Fun K "good_moves" "good_moves" s_good_moves f fd) (hmg : mg "good_moves" = some (.ref f)) (T : Txt mg) (c_moves_of : Cb P w K mg base 5 "moves_of" 1 F_moves_of) (c_settled : Cb P w K mg base 1 "settled" 1 F_settled) : Cb P w K mg base 6 "good_moves" 2 F_good_moves :=
  ⟨⟨f, fd, ["facts", "place"], fn_ok Fn sc_good_moves (fun cdv A outer s H E hr => d_good_moves T c_moves_of c_settled hr), hmg, Fn.kp, (Fn.binds (ps := ["facts", "place"]) fun _ _ _ _ _ _ us hl => match us, hl with | [_, _], _ => rfl)⟩⟩
/-! ### _law_good -/
abbrev s_law_good : Stmt := top 20
abbrev n_law_good : List Str := ["table", "found", "place", "mine", "told", "other", "end"]
noncomputable def m_law_good : SM := (sThen (sAsg (mMet .dic getOp (mV 1) (mCons (mV 2) (mCons (mApp tupOp (mCons (mC (.str (Str.ofString "draw"))) mNil)) mNil))) (gN 3))
    (sThen (sAsg (mApp (lstOp true) mNil) (gN 4))
    (sThen (sFor (mIt (mApp (sortKOp false F_law_key) (mCons (m2 ixOp (mV 0) (mV 2)) mNil))) (gN 5) (sThen (sAsg (mMet .dic getOp (mV 1) (mCons (mV 5) (mCons (mApp tupOp (mCons (mC (.str (Str.ofString "draw"))) mNil)) mNil))) (gN 6))
    (sIf (mAnd (mB (m2 eqOp (m2 ixOp (mV 3) (mC (.int 0))) (mC (.str (Str.ofString "draw"))))) (mB (m2 eqOp (m2 ixOp (mV 6) (mC (.int 0))) (mC (.str (Str.ofString "draw")))))) (sExp (mMet .lst appendOp (mV 4) (mCons (mV 5) mNil))) (sIf (mAnd (mB (m2 eqOp (m2 ixOp (mV 3) (mC (.int 0))) (mC (.str (Str.ofString "win"))))) (mB (m2 eqOp (mV 6) (mApp tupOp (mCons (mC (.str (Str.ofString "lose"))) (mCons (m2 subOp (m2 ixOp (mV 3) (mC (.int 1))) (mC (.int 1))) mNil)))))) (sExp (mMet .lst appendOp (mV 4) (mCons (mV 5) mNil))) (sIf (mAnd (mB (m2 eqOp (m2 ixOp (mV 3) (mC (.int 0))) (mC (.str (Str.ofString "lose"))))) (mB (m2 eqOp (mV 6) (mApp tupOp (mCons (mC (.str (Str.ofString "win"))) (mCons (m2 subOp (m2 ixOp (mV 3) (mC (.int 1))) (mC (.int 1))) mNil)))))) (sExp (mMet .lst appendOp (mV 4) (mCons (mV 5) mNil))) sNil)))))
    (sRet (mApp tupleOp (mCons (mV 4) mNil))))))
noncomputable def F_law_good : FM := callF false m_law_good 7
theorem sc_law_good : FnScope n_law_good ["table", "found", "place"] (defScope s_law_good) := ⟨rfl, rfl, rfl, by decide +kernel, rfl, by decide +kernel, by decide +kernel⟩
theorem d_law_good (T : Txt mg) (c_law_key : Cb P w K mg base 1 "_law_key" 1 F_law_key) (hr : Room 3 (A.deeper (envOfC "_law_good" (defScope s_law_good) s.heap.objs.size f cdv))) : SSs WF (cxOf CX0 P w K mg base n_law_good "_law_good" (defScope s_law_good) f cdv A outer s H E).nox (defBody s_law_good) m_law_good := by
  have h64 := u64 hr
  have h65 := u65 hr
  have h66 := u66 hr
  have nd := sc_law_good.nd
  exact (sss_cons (ss_asg (se_get h65 (se_var 1) (sa_cons (se_var 2) (sa_cons (se_tup (sa_cons se_str sa_nil)) sa_nil))) (sg_name 3 nd))
    (sss_cons (ss_asg (se_lst true sa_nil) (sg_name 4 nd))
    (sss_cons (ss_for PassesOwn.never rfl (si_any (se_sortFn false (c_law_key.mono (by decide)) hr rfl h66 rfl T.b_sorted rfl (sa_cons (se_ix h65 (se_var 0) (se_var 2)) sa_nil))) (sg_name 5 nd) (sss_cons (ss_asg (se_get h65 (se_var 1) (sa_cons (se_var 5) (sa_cons (se_tup (sa_cons se_str sa_nil)) sa_nil))) (sg_name 6 nd))
    (sss_one (ss_if (st_w (stw_and (st_eq h64 (se_ix h65 (se_var 3) se_int) se_str) (stw_and1 (st_eq h64 (se_ix h65 (se_var 6) se_int) se_str)))) (sss_one (ss_expr (se_append (se_var 4) (sa_cons (se_var 5) sa_nil)))) (sss_one (ss_if (st_w (stw_and (st_eq h64 (se_ix h65 (se_var 3) se_int) se_str) (stw_and1 (st_eq h64 (se_var 6) (se_tup (sa_cons se_str (sa_cons (se_sub (se_ix h65 (se_var 3) se_int) se_int) sa_nil))))))) (sss_one (ss_expr (se_append (se_var 4) (sa_cons (se_var 5) sa_nil)))) (sss_one (ss_if (st_w (stw_and (st_eq h64 (se_ix h65 (se_var 3) se_int) se_str) (stw_and1 (st_eq h64 (se_var 6) (se_tup (sa_cons se_str (sa_cons (se_sub (se_ix h65 (se_var 3) se_int) se_int) sa_nil))))))) (sss_one (ss_expr (se_append (se_var 4) (sa_cons (se_var 5) sa_nil)))) sss_nil))))))))
    (sss_one (ss_ret (se_tupC rfl T.b_tuple (sa_cons (se_var 4) sa_nil)))))))
theorem c_law_good (Fn : Fun K "_law_good" "_law_good" s_law_good f fd) (hmg : mg "_law_good" = some (.ref f)) (T : Txt mg) (c_law_key : Cb P w K mg base 1 "_law_key" 1 F_law_key) : Cb P w K mg base 4 "_law_good" 3 F_law_good :=
  ⟨⟨f, fd, ["table", "found", "place"], fn_ok Fn sc_law_good (fun cdv A outer s H E hr => d_law_good T c_law_key hr), hmg, Fn.kp, (Fn.binds (ps := ["table", "found", "place"]) fun _ _ _ _ _ _ us hl => match us, hl with | [_, _, _], _ => rfl)⟩⟩
/-! ### _law_worth -/
abbrev s_law_worth : Stmt := top 18
abbrev n_law_worth : List Str := ["table", "place", "left", "ends", "lost", "other", "end"]
noncomputable def m_law_worth (Fr : FM) : SM := (sThen (sAsg (mLc false (mIt (m2 ixOp (mV 0) (mV 1))) (gN 5) tYesM (mIf (mB (m2 gtOp (mV 2) (mC (.int 0)))) (mCall Fr (mCons (mV 0) (mCons (mV 5) (mCons (m2 subOp (mV 2) (mC (.int 1))) mNil)))) (mC .non)) [5]) (gN 3))
    (sThen (sAsg (mLc false (mIt (mV 3)) (gN 6) (mAnd (mB (m2 (isOp true) (mV 6) (mC .non))) (mB (m2 eqOp (m2 ixOp (mV 6) (mC (.int 0))) (mC (.str (Str.ofString "lose")))))) (m2 ixOp (mV 6) (mC (.int 1))) [6]) (gN 4))
    (sThen (sIf (mB (m2 gtOp (mApp lenOp (mCons (mV 4) mNil)) (mC (.int 0)))) (sRet (mApp tupOp (mCons (mC (.str (Str.ofString "win"))) (mCons (m2 (addOp false) (mC (.int 1)) (mApp min1Op (mCons (mV 4) mNil))) mNil)))) sNil)
    (sThen (sIf (mB (m2 gtOp (mApp lenOp (mCons (mLc false (mIt (mV 3)) (gN 6) (mOr (mB (m2 (isOp false) (mV 6) (mC .non))) (mB (m2 neOp (m2 ixOp (mV 6) (mC (.int 0))) (mC (.str (Str.ofString "win")))))) (mV 6) [6]) mNil)) (mC (.int 0)))) (sRet (mC .non)) sNil)
    (sRet (mApp tupOp (mCons (mC (.str (Str.ofString "lose"))) (mCons (mIf (mB (m2 gtOp (mApp lenOp (mCons (mV 3) mNil)) (mC (.int 0)))) (m2 (addOp false) (mC (.int 1)) (mApp max1Op (mCons (mLc false (mIt (mV 3)) (gN 6) tYesM (m2 ixOp (mV 6) (mC (.int 1))) [6]) mNil))) (mC (.int 0))) mNil))))))))
noncomputable def F_law_worth : Nat → FM
  | 0 => fun _ _ => .bad
  | k + 1 => callF false (m_law_worth (F_law_worth k)) 7
theorem sc_law_worth : FnScope n_law_worth ["table", "place", "left"] (defScope s_law_worth) := ⟨rfl, rfl, rfl, by decide +kernel, rfl, by decide +kernel, by decide +kernel⟩
theorem d_law_worth {j : Nat} {Fr : FM} (T : Txt mg) (c_rec : Cb P w K mg base (0 + j) "_law_worth" 3 Fr) (hr : Room (0 + j) (A.deeper (envOfC "_law_worth" (defScope s_law_worth) s.heap.objs.size f cdv))) : SSs WF (cxOf CX0 P w K mg base n_law_worth "_law_worth" (defScope s_law_worth) f cdv A outer s H E).nox (defBody s_law_worth) (m_law_worth Fr) := by
  have h64 := u64 hr
  have h65 := u65 hr
  have h66 := u66 hr
  have nd := sc_law_worth.nd
  exact (sss_cons (ss_setLc (own := [("other", 5)]) false rfl nd rfl rfl rfl (si_any (se_ix h65 (se_var 0) (se_var 1))) (blkOk_by (by first | (show blkC n_law_worth (defScope s_law_worth) _ _ = true; decide +kernel) | (show blkC n_law_worth (relS _ (defScope s_law_worth)) _ _ = true; decide +kernel))) (fun s H C cl fp => (sgo_name 5 rfl (by decide) nd)) (fun s H C cl fp => sts_nil) (fun s H C cl fp => (se_if (st_gt (se_var 2) se_int) (se_call c_rec hr rfl (sa_cons (se_var 0) (sa_cons (se_var 5) (sa_cons (se_sub (se_var 2) se_int) sa_nil))) rfl (mCons_len (mCons_len (mCons_len mNil_len)))) se_non)))
    (sss_cons (ss_setLc (own := [("end", 6)]) false rfl nd rfl rfl rfl (si_any (se_var 3)) (blkOk_by (by first | (show blkC n_law_worth (defScope s_law_worth) _ _ = true; decide +kernel) | (show blkC n_law_worth (relS _ (defScope s_law_worth)) _ _ = true; decide +kernel))) (fun s H C cl fp => (sgo_name 6 rfl (by decide) nd)) (fun s H C cl fp => (sts_one (st_w (stw_and (st_isNot (se_var 6) se_non) (stw_and1 (st_eq h64 (se_ix h65 (se_var 6) se_int) se_str)))))) (fun s H C cl fp => (se_ix h65 (se_var 6) se_int)))
    (sss_cons (ss_if (st_gt (se_len rfl T.b_len (sa_cons (se_var 4) sa_nil)) se_int) (sss_one (ss_ret (se_tup (sa_cons se_str (sa_cons (se_add false se_int (se_min1 rfl rfl T.b_min (sa_cons (se_var 4) sa_nil))) sa_nil))))) sss_nil)
    (sss_cons (ss_if (st_gt (se_len rfl T.b_len (sa_cons (se_lc (own := [("end", 6)]) false rfl nd (si_any (se_var 3)) (blkOk_by (by first | (show blkC n_law_worth (defScope s_law_worth) _ _ = true; decide +kernel) | (show blkC n_law_worth (relS _ (defScope s_law_worth)) _ _ = true; decide +kernel))) (fun s H C cl fp => (sgo_name 6 rfl (by decide) nd)) (fun s H C cl fp => (sts_one (st_w (stw_or (st_is (se_var 6) se_non) (stw_or1 (st_ne h64 (se_ix h65 (se_var 6) se_int) se_str)))))) (fun s H C cl fp => (se_var 6))) sa_nil)) se_int) (sss_one (ss_ret se_non)) sss_nil)
    (sss_one (ss_ret (se_tup (sa_cons se_str (sa_cons (se_if (st_gt (se_len rfl T.b_len (sa_cons (se_var 3) sa_nil)) se_int) (se_add false se_int (se_max1 rfl rfl T.b_max (sa_cons (se_lc (own := [("end", 6)]) false rfl nd (si_any (se_var 3)) (blkOk_by (by first | (show blkC n_law_worth (defScope s_law_worth) _ _ = true; decide +kernel) | (show blkC n_law_worth (relS _ (defScope s_law_worth)) _ _ = true; decide +kernel))) (fun s H C cl fp => (sgo_name 6 rfl (by decide) nd)) (fun s H C cl fp => sts_nil) (fun s H C cl fp => (se_ix h65 (se_var 6) se_int))) sa_nil))) se_int) sa_nil)))))))))
theorem c_law_worth (Fn : Fun K "_law_worth" "_law_worth" s_law_worth f fd) (hmg : mg "_law_worth" = some (.ref f)) (T : Txt mg) : ∀ j, Cb P w K mg base (0 + j) "_law_worth" 3 (F_law_worth j)
  | 0 => ⟨⟨f, fd, ["table", "place", "left"], (bad_ok (by rfl)), hmg, Fn.kp, (Fn.binds (ps := ["table", "place", "left"]) fun _ _ _ _ _ _ us hl => match us, hl with | [_, _, _], _ => rfl)⟩⟩
  | j + 1 => ⟨⟨f, fd, ["table", "place", "left"], fn_ok Fn sc_law_worth (fun cdv A outer s H E hr => d_law_worth T (c_law_worth Fn hmg T j) hr), hmg, Fn.kp, (Fn.binds (ps := ["table", "place", "left"]) fun _ _ _ _ _ _ us hl => match us, hl with | [_, _, _], _ => rfl)⟩⟩
/-! ### law -/
abbrev s_law : Stmt := top 21
abbrev n_law : List Str := ["script", "draws", "places", "moves", "facts", "table", "found", "order", "due", "place", "turn", "k", "bent", "one", "other", "move"]
noncomputable def m_law : SM := (sThen (sAsg (mCall F_law_draws (mCons (mV 0) mNil)) (gN 1))
    (sThen (sAsg (mCall F_law_pick (mCons (mV 1) (mCons (mApp (lstOp false) (mCons (mApp (lstOp false) (mCons (mC (.int 1)) (mCons (mC (.int 2)) (mCons (mC (.int 3)) (mCons (mC (.str (Str.ofString "a"))) (mCons (mC (.str (Str.ofString "b"))) (mCons (mC (.str (Str.ofString "c d"))) (mCons (m1 negOp (mC (.int 4))) mNil)))))))) (mCons (mApp (lstOp false) (mCons (mC (.str (Str.ofString "x"))) (mCons (mC (.str (Str.ofString "y"))) (mCons (mC (.int 0)) mNil)))) (mCons (mApp (lstOp false) (mCons (mC (.int 5)) (mCons (mC (.int 6)) (mCons (mC (.int 7)) (mCons (mC (.int 8)) mNil))))) (mCons (mApp (lstOp false) (mCons (mC (.int 1)) mNil)) mNil))))) mNil))) (gN 2))
    (sThen (sAsg (mLc false (mRng (mCons (mCall F_law_draw (mCons (mV 1) (mCons (mC (.int 13)) mNil))) mNil)) (gN 11) tYesM (mApp tupOp (mCons (mCall F_law_pick (mCons (mV 1) (mCons (mV 2) mNil))) (mCons (mCall F_law_pick (mCons (mV 1) (mCons (mV 2) mNil))) mNil))) [11]) (gN 3))
    (sThen (sIf (mB (m2 eqOp (mCall F_law_draw (mCons (mV 1) (mCons (mC (.int 2)) mNil))) (mC (.int 0)))) (sAsg (mLc false (mIt (mV 3)) (gT [(gN 13), (gN 14)]) (mOr (mB (m2 ltOp (mIdx (mV 2) (mCons (mV 13) mNil)) (mIdx (mV 2) (mCons (mV 14) mNil)))) (mB (m2 eqOp (mCall F_law_draw (mCons (mV 1) (mCons (mC (.int 4)) mNil))) (mC (.int 0))))) (mApp tupOp (mCons (mV 13) (mCons (mV 14) mNil))) [13, 14]) (gN 3)) sNil)
    (sThen (sAsg (m2 (addOp false) (mLc false (mIt (mV 3)) (gN 15) tYesM (mApp tupOp (mCons (mC (.str (Str.ofString "move"))) (mCons (mV 15) mNil))) [15]) (mApp (lstOp false) (mCons (mApp tupOp (mCons (mC (.str (Str.ofString "moved"))) (mCons (mApp tupOp (mCons (mC (.int 1)) (mCons (mC (.int 2)) mNil))) mNil))) (mCons (mApp tupOp (mCons (mC (.str (Str.ofString "a"))) (mCons (mApp tupOp mNil) mNil))) mNil)))) (gN 4))
    (sThen (sAsg (mCall F_law_table (mCons (mV 3) mNil)) (gN 5))
    (sThen (sAsg (mCall F_law_outcomes (mCons (mV 5) mNil)) (gN 6))
    (sThen (sAsg (mApp (sortKOp false F_law_key) (mCons (mV 5) mNil)) (gN 7))
    (sThen (sAsg (mApp tupleOp (mCons (mLc false (mIt (mV 7)) (gN 9) tYesM (mApp tupOp (mCons (mV 9) (mCons (mMet .dic getOp (mV 6) (mCons (mV 9) (mCons (mApp tupOp (mCons (mC (.str (Str.ofString "draw"))) mNil)) mNil))) mNil))) [9]) mNil)) (gN 8))
    (sThen (sIf (mOr (mNot (mTru (mCall (F_law_same 5) (mCons (mCall F_outcomes (mCons (mV 4) mNil)) (mCons (mV 8) mNil))))) (mB (m2 (isOp true) (mCall F_outcomes_right (mCons (mV 4) (mCons (mV 8) mNil))) (mC (.bl true))))) (sRet (mC (.bl false))) sNil)
    (sThen (sFor (mIt (mV 7)) (gN 9) (sIf (mNot (mTru (mCall (F_law_same 5) (mCons (mCall F_good_moves (mCons (mV 4) (mCons (mV 9) mNil))) (mCons (mCall F_law_good (mCons (mV 5) (mCons (mV 6) (mCons (mV 9) mNil)))) mNil))))) (sRet (mC (.bl false))) sNil))
    (sThen (sIf (mB (m2 ltOp (mApp lenOp (mCons (mV 3) mNil)) (mC (.int 7)))) (sFor (mIt (mSl false (mV 7) none (some (mC (.int 3))))) (gN 9) (sIf (mAnd (mB (m2 (inOp false) (mV 9) (mV 6))) (mAnd (mB (m2 neOp (mCall (F_law_worth 8) (mCons (mV 5) (mCons (mV 9) (mCons (mApp min2Op (mCons (m2 ixOp (m2 ixOp (mV 6) (mV 9)) (mC (.int 1))) (mCons (mC (.int 6)) mNil))) mNil)))) (m2 ixOp (mV 6) (mV 9)))) (mB (m2 ltOp (m2 ixOp (m2 ixOp (mV 6) (mV 9)) (mC (.int 1))) (mC (.int 7)))))) (sRet (mC (.bl false))) sNil)) sNil)
    (sThen (sFor (mRng (mCons (mC (.int 4)) mNil)) (gN 10) (sThen (sAsg (mIf (mB (m2 gtOp (mApp lenOp (mCons (mV 8) mNil)) (mC (.int 0)))) (mCall F_law_draw (mCons (mV 1) (mCons (mApp lenOp (mCons (mV 8) mNil)) mNil))) (mC (.int 0))) (gN 11))
    (sThen (sAsg (mV 8) (gN 12))
    (sThen (sIf (mAnd (mB (m2 gtOp (mApp lenOp (mCons (mV 8) mNil)) (mC (.int 0)))) (mB (m2 gtOp (mCall F_law_draw (mCons (mV 1) (mCons (mC (.int 4)) mNil))) (mC (.int 0))))) (sAsg (m2 (addOp false) (m2 (addOp false) (mSl false (mV 8) none (some (mV 11))) (mApp tupOp (mCons (mApp tupOp (mCons (m2 ixOp (m2 ixOp (mV 8) (mV 11)) (mC (.int 0))) (mCons (mCall F_law_pick (mCons (mV 1) (mCons (mApp (lstOp false) (mCons (mApp tupOp (mCons (mC (.str (Str.ofString "draw"))) mNil)) (mCons (mApp tupOp (mCons (mC (.str (Str.ofString "win"))) (mCons (mC (.int 1)) mNil))) (mCons (mApp tupOp (mCons (mC (.str (Str.ofString "win"))) (mCons (mC (.int 2)) mNil))) (mCons (mApp tupOp (mCons (mC (.str (Str.ofString "lose"))) (mCons (mC (.int 0)) mNil))) (mCons (mApp tupOp (mCons (mC (.str (Str.ofString "lose"))) (mCons (mC (.int 2)) mNil))) (mCons (mApp tupOp (mCons (mC (.str (Str.ofString "win"))) mNil)) (mCons (mApp tupOp (mCons (mC (.str (Str.ofString "lose"))) (mCons (mC (.bl true)) mNil))) (mCons (mC .non) (mCons (mApp tupOp (mCons (mC (.str (Str.ofString "win"))) (mCons (mC (.int 3)) mNil))) (mCons (mC (.str (Str.ofString "draw"))) mNil))))))))))) mNil))) mNil))) mNil))) (mSl false (mV 8) (some (m2 (addOp false) (mV 11) (mC (.int 1)))) none)) (gN 12)) sNil)
    (sThen (sAsg (mCall F_law_pick (mCons (mV 1) (mCons (mApp (lstOp false) (mCons (mV 12) (mCons (mV 12) (mCons (mV 12) (mCons (mApp (listOp1 false) (mCons (mV 12) mNil)) (mCons (mSl false (mV 12) (some (mC (.int 1))) none) (mCons (m1 (revAOp false) (mV 12)) (mCons (mC .non) mNil)))))))) mNil))) (gN 12))
    (sIf (mNot (mTru (mCall (F_law_same 5) (mCons (mCall F_outcomes_right (mCons (mV 4) (mCons (mV 12) mNil))) (mCons (mAndV (mApp isiOp (mCons (mV 12) (mCons (mC (.ty "tuple")) mNil))) (mAndV (m2 eqOp (mV 12) (mV 8)) (mCall (F_law_same 5) (mCons (mV 12) (mCons (mV 8) mNil))))) mNil))))) (sRet (mC (.bl false))) sNil))))))
    (sRet (mC (.bl true))))))))))))))))
noncomputable def F_law : FM := callF false m_law 16
theorem sc_law : FnScope n_law ["script"] (defScope s_law) := ⟨rfl, rfl, rfl, by decide +kernel, rfl, by decide +kernel, by decide +kernel⟩
theorem d_law (T : Txt mg) (c_law_draws : Cb P w K mg base 1 "_law_draws" 1 F_law_draws) (c_law_pick : Cb P w K mg base 2 "_law_pick" 2 F_law_pick) (c_law_table : Cb P w K mg base 1 "_law_table" 1 F_law_table) (c_law_outcomes : Cb P w K mg base 1 "_law_outcomes" 1 F_law_outcomes) (c_law_draw : Cb P w K mg base 1 "_law_draw" 2 F_law_draw) (c_law_key : Cb P w K mg base 1 "_law_key" 1 F_law_key) (c_law_same : Cb P w K mg base 5 "_law_same" 2 (F_law_same 5)) (c_outcomes_right : Cb P w K mg base 6 "outcomes_right" 2 F_outcomes_right) (c_outcomes : Cb P w K mg base 6 "outcomes" 1 F_outcomes) (c_good_moves : Cb P w K mg base 6 "good_moves" 2 F_good_moves) (c_law_good : Cb P w K mg base 4 "_law_good" 3 F_law_good) (c_law_worth : Cb P w K mg base 8 "_law_worth" 3 (F_law_worth 8)) (hr : Room 8 (A.deeper (envOfC "law" (defScope s_law) s.heap.objs.size f cdv))) : SSs WF (cxOf CX0 P w K mg base n_law "law" (defScope s_law) f cdv A outer s H E).nox (defBody s_law) m_law := by
  have h64 := u64 hr
  have h65 := u65 hr
  have h66 := u66 hr
  have nd := sc_law.nd
  exact (sss_cons (ss_asg (se_call (c_law_draws.mono (by decide)) hr rfl (sa_cons (se_var 0) sa_nil) rfl (mCons_len mNil_len)) (sg_name 1 nd))
    (sss_cons (ss_asg (se_call (c_law_pick.mono (by decide)) hr rfl (sa_cons (se_var 1) (sa_cons (se_lst false (sa_cons (se_lst false (sa_cons se_int (sa_cons se_int (sa_cons se_int (sa_cons se_str (sa_cons se_str (sa_cons se_str (sa_cons (se_neg se_int) sa_nil)))))))) (sa_cons (se_lst false (sa_cons se_str (sa_cons se_str (sa_cons se_int sa_nil)))) (sa_cons (se_lst false (sa_cons se_int (sa_cons se_int (sa_cons se_int (sa_cons se_int sa_nil))))) (sa_cons (se_lst false (sa_cons se_int sa_nil)) sa_nil))))) sa_nil)) rfl (mCons_len (mCons_len mNil_len))) (sg_name 2 nd))
    (sss_cons (ss_setLc (own := [("k", 11)]) false rfl nd rfl rfl rfl (si_rng1 rfl T.b_range (sa_cons (se_call (c_law_draw.mono (by decide)) hr rfl (sa_cons (se_var 1) (sa_cons se_int sa_nil)) rfl (mCons_len (mCons_len mNil_len))) sa_nil)) (blkOk_by (by first | (show blkC n_law (defScope s_law) _ _ = true; decide +kernel) | (show blkC n_law (relS _ (defScope s_law)) _ _ = true; decide +kernel))) (fun s H C cl fp => (sgo_name 11 rfl (by decide) nd)) (fun s H C cl fp => sts_nil) (fun s H C cl fp => (se_tup (sa_cons (se_call (c_law_pick.mono (by decide)) hr rfl (sa_cons (se_var 1) (sa_cons (se_var 2) sa_nil)) rfl (mCons_len (mCons_len mNil_len))) (sa_cons (se_call (c_law_pick.mono (by decide)) hr rfl (sa_cons (se_var 1) (sa_cons (se_var 2) sa_nil)) rfl (mCons_len (mCons_len mNil_len))) sa_nil)))))
    (sss_cons (ss_if (st_eq h64 (se_call (c_law_draw.mono (by decide)) hr rfl (sa_cons (se_var 1) (sa_cons se_int sa_nil)) rfl (mCons_len (mCons_len mNil_len))) se_int) (sss_one (ss_setLc (own := [("one", 13), ("other", 14)]) false rfl nd rfl rfl rfl (si_any (se_var 3)) (blkOk_by (by first | (show blkC n_law (defScope s_law) _ _ = true; decide +kernel) | (show blkC n_law (relS _ (defScope s_law)) _ _ = true; decide +kernel))) (fun s H C cl fp => (sgo_tup rfl (sgso_cons (sgo_name 13 rfl (by decide) nd) (sgso_cons (sgo_name 14 rfl (by decide) nd) sgso_nil)) rfl)) (fun s H C cl fp => (sts_one (st_w (stw_or (st_lt (se_index h65 (se_var 2) (sa_cons (se_var 13) sa_nil)) (se_index h65 (se_var 2) (sa_cons (se_var 14) sa_nil))) (stw_or1 (st_eq h64 (se_call (c_law_draw.mono (by decide)) hr rfl (sa_cons (se_var 1) (sa_cons se_int sa_nil)) rfl (mCons_len (mCons_len mNil_len))) se_int)))))) (fun s H C cl fp => (se_tup (sa_cons (se_var 13) (sa_cons (se_var 14) sa_nil)))))) sss_nil)
    (sss_cons (ss_asg (se_add false (se_lc (own := [("move", 15)]) false rfl nd (si_any (se_var 3)) (blkOk_by (by first | (show blkC n_law (defScope s_law) _ _ = true; decide +kernel) | (show blkC n_law (relS _ (defScope s_law)) _ _ = true; decide +kernel))) (fun s H C cl fp => (sgo_name 15 rfl (by decide) nd)) (fun s H C cl fp => sts_nil) (fun s H C cl fp => (se_tup (sa_cons se_str (sa_cons (se_var 15) sa_nil))))) (se_lst false (sa_cons (se_tup (sa_cons se_str (sa_cons (se_tup (sa_cons se_int (sa_cons se_int sa_nil))) sa_nil))) (sa_cons (se_tup (sa_cons se_str (sa_cons (se_tup sa_nil) sa_nil))) sa_nil)))) (sg_name 4 nd))
    (sss_cons (ss_asg (se_call (c_law_table.mono (by decide)) hr rfl (sa_cons (se_var 3) sa_nil) rfl (mCons_len mNil_len)) (sg_name 5 nd))
    (sss_cons (ss_asg (se_call (c_law_outcomes.mono (by decide)) hr rfl (sa_cons (se_var 5) sa_nil) rfl (mCons_len mNil_len)) (sg_name 6 nd))
    (sss_cons (ss_asg (se_sortFn false (c_law_key.mono (by decide)) hr rfl h66 rfl T.b_sorted rfl (sa_cons (se_var 5) sa_nil)) (sg_name 7 nd))
    (sss_cons (ss_asg (se_tupC rfl T.b_tuple (sa_cons (se_lc (own := [("place", 9)]) false rfl nd (si_any (se_var 7)) (blkOk_by (by first | (show blkC n_law (defScope s_law) _ _ = true; decide +kernel) | (show blkC n_law (relS _ (defScope s_law)) _ _ = true; decide +kernel))) (fun s H C cl fp => (sgo_name 9 rfl (by decide) nd)) (fun s H C cl fp => sts_nil) (fun s H C cl fp => (se_tup (sa_cons (se_var 9) (sa_cons (se_get h65 (se_var 6) (sa_cons (se_var 9) (sa_cons (se_tup (sa_cons se_str sa_nil)) sa_nil))) sa_nil))))) sa_nil)) (sg_name 8 nd))
    (sss_cons (ss_if (st_w (stw_or (st_not (st_of (se_call (c_law_same.mono (by decide)) hr rfl (sa_cons (se_call (c_outcomes.mono (by decide)) hr rfl (sa_cons (se_var 4) sa_nil) rfl (mCons_len mNil_len)) (sa_cons (se_var 8) sa_nil)) rfl (mCons_len (mCons_len mNil_len))))) (stw_or1 (st_isNot (se_call (c_outcomes_right.mono (by decide)) hr rfl (sa_cons (se_var 4) (sa_cons (se_var 8) sa_nil)) rfl (mCons_len (mCons_len mNil_len))) se_bl)))) (sss_one (ss_ret se_bl)) sss_nil)
    (sss_cons (ss_for PassesOwn.never rfl (si_any (se_var 7)) (sg_name 9 nd) (sss_one (ss_if (st_not (st_of (se_call (c_law_same.mono (by decide)) hr rfl (sa_cons (se_call (c_good_moves.mono (by decide)) hr rfl (sa_cons (se_var 4) (sa_cons (se_var 9) sa_nil)) rfl (mCons_len (mCons_len mNil_len))) (sa_cons (se_call (c_law_good.mono (by decide)) hr rfl (sa_cons (se_var 5) (sa_cons (se_var 6) (sa_cons (se_var 9) sa_nil))) rfl (mCons_len (mCons_len (mCons_len mNil_len)))) sa_nil)) rfl (mCons_len (mCons_len mNil_len))))) (sss_one (ss_ret se_bl)) sss_nil)))
    (sss_cons (ss_if (st_lt (se_len rfl T.b_len (sa_cons (se_var 3) sa_nil)) se_int) (sss_one (ss_for PassesOwn.never rfl (si_any (se_slice false (se_var 7) so_none (so_some se_int))) (sg_name 9 nd) (sss_one (ss_if (st_w (stw_and (st_in h65 (se_var 9) (se_var 6)) (stw_and (st_ne h64 (se_call (c_law_worth.mono (by decide)) hr rfl (sa_cons (se_var 5) (sa_cons (se_var 9) (sa_cons (se_min2 rfl rfl T.b_min (sa_cons (se_ix h65 (se_ix h65 (se_var 6) (se_var 9)) se_int) (sa_cons se_int sa_nil))) sa_nil))) rfl (mCons_len (mCons_len (mCons_len mNil_len)))) (se_ix h65 (se_var 6) (se_var 9))) (stw_and1 (st_lt (se_ix h65 (se_ix h65 (se_var 6) (se_var 9)) se_int) se_int))))) (sss_one (ss_ret se_bl)) sss_nil)))) sss_nil)
    (sss_cons (ss_for PassesOwn.never rfl (si_rng1 rfl T.b_range (sa_cons se_int sa_nil)) (sg_name 10 nd) (sss_cons (ss_asg (se_if (st_gt (se_len rfl T.b_len (sa_cons (se_var 8) sa_nil)) se_int) (se_call (c_law_draw.mono (by decide)) hr rfl (sa_cons (se_var 1) (sa_cons (se_len rfl T.b_len (sa_cons (se_var 8) sa_nil)) sa_nil)) rfl (mCons_len (mCons_len mNil_len))) se_int) (sg_name 11 nd))
    (sss_cons (ss_asg (se_var 8) (sg_name 12 nd))
    (sss_cons (ss_if (st_w (stw_and (st_gt (se_len rfl T.b_len (sa_cons (se_var 8) sa_nil)) se_int) (stw_and1 (st_gt (se_call (c_law_draw.mono (by decide)) hr rfl (sa_cons (se_var 1) (sa_cons se_int sa_nil)) rfl (mCons_len (mCons_len mNil_len))) se_int)))) (sss_one (ss_asg (se_add false (se_add false (se_slice false (se_var 8) so_none (so_some (se_var 11))) (se_tup (sa_cons (se_tup (sa_cons (se_ix h65 (se_ix h65 (se_var 8) (se_var 11)) se_int) (sa_cons (se_call (c_law_pick.mono (by decide)) hr rfl (sa_cons (se_var 1) (sa_cons (se_lst false (sa_cons (se_tup (sa_cons se_str sa_nil)) (sa_cons (se_tup (sa_cons se_str (sa_cons se_int sa_nil))) (sa_cons (se_tup (sa_cons se_str (sa_cons se_int sa_nil))) (sa_cons (se_tup (sa_cons se_str (sa_cons se_int sa_nil))) (sa_cons (se_tup (sa_cons se_str (sa_cons se_int sa_nil))) (sa_cons (se_tup (sa_cons se_str sa_nil)) (sa_cons (se_tup (sa_cons se_str (sa_cons se_bl sa_nil))) (sa_cons se_non (sa_cons (se_tup (sa_cons se_str (sa_cons se_int sa_nil))) (sa_cons se_str sa_nil))))))))))) sa_nil)) rfl (mCons_len (mCons_len mNil_len))) sa_nil))) sa_nil))) (se_slice false (se_var 8) (so_some (se_add false (se_var 11) se_int)) so_none)) (sg_name 12 nd))) sss_nil)
    (sss_cons (ss_asg (se_call (c_law_pick.mono (by decide)) hr rfl (sa_cons (se_var 1) (sa_cons (se_lst false (sa_cons (se_var 12) (sa_cons (se_var 12) (sa_cons (se_var 12) (sa_cons (se_listC false rfl T.b_list (sa_cons (se_var 12) sa_nil)) (sa_cons (se_slice false (se_var 12) (so_some se_int) so_none) (sa_cons (se_rev false (se_var 12)) (sa_cons se_non sa_nil)))))))) sa_nil)) rfl (mCons_len (mCons_len mNil_len))) (sg_name 12 nd))
    (sss_one (ss_if (st_not (st_of (se_call (c_law_same.mono (by decide)) hr rfl (sa_cons (se_call (c_outcomes_right.mono (by decide)) hr rfl (sa_cons (se_var 4) (sa_cons (se_var 12) sa_nil)) rfl (mCons_len (mCons_len mNil_len))) (sa_cons (se_and (se_isi rfl T.b_isinstance (sa_cons (se_var 12) (sa_cons (se_bltn rfl T.b_tuple rfl rfl) sa_nil))) (se_and (se_eq h64 (se_var 12) (se_var 8)) (se_one (se_call (c_law_same.mono (by decide)) hr rfl (sa_cons (se_var 12) (sa_cons (se_var 8) sa_nil)) rfl (mCons_len (mCons_len mNil_len)))))) sa_nil)) rfl (mCons_len (mCons_len mNil_len))))) (sss_one (ss_ret se_bl)) sss_nil)))))))
    (sss_one (ss_ret se_bl)))))))))))))))
theorem c_law (Fn : Fun K "law" "law" s_law f fd) (hmg : mg "law" = some (.ref f)) (T : Txt mg) (c_law_draws : Cb P w K mg base 1 "_law_draws" 1 F_law_draws) (c_law_pick : Cb P w K mg base 2 "_law_pick" 2 F_law_pick) (c_law_table : Cb P w K mg base 1 "_law_table" 1 F_law_table) (c_law_outcomes : Cb P w K mg base 1 "_law_outcomes" 1 F_law_outcomes) (c_law_draw : Cb P w K mg base 1 "_law_draw" 2 F_law_draw) (c_law_key : Cb P w K mg base 1 "_law_key" 1 F_law_key) (c_law_same : Cb P w K mg base 5 "_law_same" 2 (F_law_same 5)) (c_outcomes_right : Cb P w K mg base 6 "outcomes_right" 2 F_outcomes_right) (c_outcomes : Cb P w K mg base 6 "outcomes" 1 F_outcomes) (c_good_moves : Cb P w K mg base 6 "good_moves" 2 F_good_moves) (c_law_good : Cb P w K mg base 4 "_law_good" 3 F_law_good) (c_law_worth : Cb P w K mg base 8 "_law_worth" 3 (F_law_worth 8)) : Cb P w K mg base 9 "law" 1 F_law :=
  ⟨⟨f, fd, ["script"], fn_ok Fn sc_law (fun cdv A outer s H E hr => d_law T c_law_draws c_law_pick c_law_table c_law_outcomes c_law_draw c_law_key c_law_same c_outcomes_right c_outcomes c_good_moves c_law_good c_law_worth hr), hmg, Fn.kp, (Fn.binds (ps := ["script"]) fun _ _ _ _ _ _ us hl => match us, hl with | [_], _ => rfl)⟩⟩
end
end G89
end

section
set_option Elab.async false
set_option linter.all false
set_option maxRecDepth 100000
set_option autoImplicit false
set_option maxHeartbeats 4000000
/-! W1: tables of moves. -/
namespace G89
open PySem PySem.Spec PyProof.Rows L2 TB
abbrev Mv := Key × Key
def mvD (m : Mv) : D := .tup [keyD m.1, keyD m.2]
theorem mv_pv (m : Mv) (k : Nat) : Pv (k + 1) (mvD m) := .tup _ _ fun x hx => by
  simp at hx
  rcases hx with rfl | rfl <;> exact key_pv _ _
/-! ### sorting moves -/
def pkD (m : Mv) : D := .tup [kyD m.1, kyD m.2]
theorem pk_pv (m : Mv) : Pv 2 (pkD m) := .tup _ _ fun x hx => by
  simp at hx
  rcases hx with rfl | rfl <;> exact kyD_pv _
theorem value_key_eq : F_value_key = FKey := rfl
theorem law_key_eq : F_law_key = FKey := rfl
theorem pair_key_ok (m : Mv) : F_pair_key [mvD m] [] = .ok (pkD m) [] := Okv.is (by
  unfold F_pair_key
  refine callF_ok ?_
  unfold m_pair_key startD
  have := (pk_pv m).frz 0 []
  unfold pkD at this ⊢
  simp [mvD, mApp, mCons, mNil, mV, mC, m2, mCall, value_key_eq, FKey_call, fin, this])
theorem pair_key_call (m : Mv) (h : Hh) : callOp F_pair_key [mvD m] h = .ok (pkD m) h :=
  call_pv (fun x hx => by simp at hx; subst hx; exact ⟨_, mv_pv m 0⟩) (pair_key_ok m) (pk_pv m)
theorem alike_p (a b : Mv) : W.alike (toPy (pkD a)) (toPy (pkD b)) = true := by
  simp [pkD, toPy, toPys, W.alike, W.alikeAll, alike_k]
theorem dlt_p (a b : Mv) (h : a ≠ b) : W.dataLt (toPy (pkD a)) (toPy (pkD b)) = if a.1 = b.1 then ltk a.2 b.2 else ltk a.1 b.1 := by
  simp only [pkD, toPy, toPys, W.dataLt_tuple]
  by_cases h1 : a.1 = b.1
  · have h2 : a.2 ≠ b.2 := fun z => h (Prod.ext h1 z)
    rw [if_pos h1, h1, W.dataLt_all_yes (alike_k _ _) (by rw [eqv_k]; simp), W.dataLt_all_no (alike_k _ _) (by rw [eqv_k]; simp [h2]), dlt_k _ _ h2]
  · rw [if_neg h1, W.dataLt_all_no (alike_k _ _) (by rw [eqv_k]; simp [h1]), dlt_k _ _ h1]
theorem anti_p (a b : Mv) (h1 : leD (pkD a) (pkD b) = true) (h2 : leD (pkD b) (pkD a) = true) : a = b := by
  refine Classical.byContradiction fun h => ?_
  simp only [leD, dlt_p b a (Ne.symm h), dlt_p a b h, Bool.not_eq_true'] at h1 h2
  by_cases q : a.1 = b.1
  · have hq : a.2 ≠ b.2 := fun z => h (Prod.ext q z)
    rw [if_pos q.symm] at h1
    rw [if_pos q] at h2
    rw [ltk_tri hq h1] at h2
    cases h2
  · rw [if_neg (Ne.symm q)] at h1
    rw [if_neg q] at h2
    rw [ltk_tri q h1] at h2
    cases h2
theorem pair_sort : SortK mvD pkD F_pair_key := ⟨pair_key_call, fun l => srtOk_of l (fun a => (pk_pv a).ok (by decide)) alike_p (fun a => by simp [pkD, toPy, toPys, isTupC]), anti_p⟩
/-- in the order of pairs, those of one first stand in the order of their seconds -/
theorem pair_snd {a b : Mv} (h : leD (pkD a) (pkD b) = true) (e : a.1 = b.1) : leD (kyD a.2) (kyD b.2) = true := by
  by_cases q : a.2 = b.2
  · rw [q]
    have := leD_total.total (kyD b.2) (kyD b.2)
    simpa using this
  · have hab : b ≠ a := fun z => q (by rw [z])
    simp only [leD, dlt_p b a hab, if_pos e.symm, dlt_k _ _ (Ne.symm q)] at h ⊢
    exact h
/-! ### tables -/
structure TabK (K : Key → Prop) (dn : List Mv) (es : List DE) : Prop where
  ks : ∀ p, p ∈ es.map (·.1) ↔ K p
  it : ∀ e, e ∈ es → ∃ qs : List Key, e.2.2 = qs.map keyD ∧ qs.Nodup ∧ (∀ q, q ∈ qs ↔ (e.1, q) ∈ dn) ∧ qs.Sublist ((dn.filter fun m => decide (m.1 = e.1)).map (·.2))
section
variable {K : Key → Prop} {dn : List Mv} {es : List DE} {h : Hh} {k : Key}
theorem TabK.find (T : TabK K dn es) (hk : K k) : ∃ r xs, (k, r, xs) ∈ es := by
  obtain ⟨e, he, rfl⟩ := List.mem_map.mp ((T.ks k).mpr hk)
  exact ⟨e.2.1, e.2.2, he⟩
theorem TabK.add (T : TabK K dn es) (hk : ∀ m, m ∈ dn → K m.1) (n : ¬ K k) (r : Nat) : TabK (fun x => K x ∨ x = k) dn (es ++ [(k, r, [])]) := by
  refine ⟨fun p => ?_, fun e he => ?_⟩
  · rw [List.map_append, List.mem_append, T.ks]
    simp
  · rcases List.mem_append.mp he with he | he
    · exact T.it e he
    · simp at he
      subst he
      refine ⟨[], rfl, .nil, fun q => ?_, List.nil_sublist _⟩
      simp only [List.not_mem_nil, false_iff]
      exact fun z => n (hk _ z)
theorem TabK.imp {K' : Key → Prop} (T : TabK K dn es) (hK : ∀ p, K p ↔ K' p) : TabK K' dn es := ⟨fun p => (T.ks p).trans (hK p), T.it⟩
theorem ens_setd (D : DL 0 h es) (T : TabK K dn es) (hk : ∀ m, m ∈ dn → K m.1) (hz : es.length < sizeLine) : ∃ v h' es', setdOp (.ref 0) [keyD k, .ref h.length] (h ++ [Ob.lst []]) = .ok v h' ∧ DL 0 h' es' ∧ TabK (fun x => K x ∨ x = k) dn es' ∧ es'.length ≤ es.length + 1 := by
  have D1 := D.push [Ob.lst []]
  have hz2 : (dlK es).length < sizeLine := by simpa [dlK] using hz
  by_cases q : K k
  · obtain ⟨r, xs, m⟩ := T.find q
    refine ⟨.ref r, h ++ [Ob.lst []], es, ?_, D1, T.imp fun p => ⟨.inl, fun z => z.elim id fun e => e ▸ q⟩, by omega⟩
    simp only [setdOp, cellD, D1.cell, D.val m, hz2, keyOf_keyD, if_true]
  · have n : k ∉ es.map (·.1) := fun z => q ((T.ks k).mp z)
    refine ⟨.ref h.length, _, es ++ [(k, h.length, [])], ?_, D.add n, T.add hk q _, by simp⟩
    simp only [setdOp, cellD, D1.cell, D.out n, hz2, keyOf_keyD, if_true]
/-- table[k] = table.get(k, []) -/
theorem ens_get (D : DL 0 h es) (T : TabK K dn es) (hk : ∀ m, m ∈ dn → K m.1) (hz : es.length < sizeLine) : ∃ v h' es', getOp (.ref 0) [keyD k, .ref h.length] (h ++ [Ob.lst []]) = .ok v (h ++ [Ob.lst []]) ∧ setAOp (.ref 0) (keyD k) v (h ++ [Ob.lst []]) = .ok () h' ∧ DL 0 h' es' ∧ TabK (fun x => K x ∨ x = k) dn es' ∧ es'.length ≤ es.length + 1 := by
  have D1 := D.push [Ob.lst []]
  have hz2 : (dlK es).length < sizeLine := by simpa [dlK] using hz
  by_cases q : K k
  · obtain ⟨r, xs, m⟩ := T.find q
    refine ⟨.ref r, h ++ [Ob.lst []], es, ?_, ?_, D1, T.imp fun p => ⟨.inl, fun z => z.elim id fun e => e ▸ q⟩, by omega⟩
    · simp only [getOp, dcOf, D1.cell, D.val m, keyOf_keyD, Option.getD_some]
    · simp only [setAOp, D1.cell, hz2, D.same m, D1.set_same, keyOf_keyD, if_true]
  · have n : k ∉ es.map (·.1) := fun z => q ((T.ks k).mp z)
    refine ⟨.ref h.length, _, es ++ [(k, h.length, [])], ?_, ?_, D.add n, T.add hk q _, by simp⟩
    · simp only [getOp, dcOf, D1.cell, D.out n, keyOf_keyD, Option.getD_none]
    · simp only [setAOp, D1.cell, hz2, keyOf_keyD, if_true]
/-- if b not in table[a]: table[a].append(b) -/
theorem app_tab {a b : Key} (D : DL 0 h es) (T : TabK K dn es) (hd : dn.length < 1000) (ha : K a) : ∃ r xs, (a, r, xs) ∈ es ∧ ixOp (.ref 0) (keyD a) h = .ok (.ref r) h ∧ isTy .lst h (.ref r) = true ∧
    ∃ i : Bool, inOp true (keyD b) (.ref r) h = .ok (.bl i) h ∧ (i = false → TabK K (dn ++ [(a, b)]) es) ∧ (i = true → ∃ h' es', appendOp (.ref r) [keyD b] h = .ok .non h' ∧ DL 0 h' es' ∧ TabK K (dn ++ [(a, b)]) es' ∧ es'.length = es.length) := by
  obtain ⟨r, xs, m⟩ := T.find ha
  obtain ⟨qs, e1, nd, hq, sb⟩ := T.it _ m
  simp only at e1 hq sb
  have at_ := D.at_ _ m
  simp only at at_
  refine ⟨r, xs, m, ?_, by simp [isTy, kin, at_], !memB b qs, ?_, fun hi => ⟨T.ks, fun e he => ?_⟩, fun hi => ?_⟩
  · have hk := keyOf_keyD a
    cases a <;> simp only [keyD] at hk ⊢ <;> simp only [ixOp, sqOf, lsOf, D.cell, dcOf, D.val m, hk]
  · rw [key_eqv.in_ (l := qs) (by simp [sqOf, lsOf, at_, e1])]
    simp
  · obtain ⟨qs2, f1, f2, f3, f4⟩ := T.it e he
    refine ⟨qs2, f1, f2, fun q => ?_, ?_⟩
    · rw [f3, List.mem_append]
      constructor
      · exact .inl
      · rintro (z | z)
        · exact z
        · simp only [List.mem_singleton, Prod.mk.injEq] at z
          obtain ⟨z1, rfl⟩ := z
          have : e = (a, r, xs) := nodup_key D.nd e _ he m z1
          subst this
          exact (hq q).mp (by simpa using hi)
    · rw [List.filter_append, List.map_append]
      exact f4.trans (List.sublist_append_left _ _)
  · have hb : b ∉ qs := by simpa using hi
    have hl : xs.length < sizeLine := by
      rw [e1, List.length_map]
      have h1 := sb.length_le
      have h2 := List.length_filter_le (fun m : Mv => decide (m.1 = a)) dn
      rw [List.length_map] at h1
      have : (1000 : Nat) ≤ sizeLine := by decide
      omega
    refine ⟨_, _, ?_, D.app (x := keyD b) m, ⟨fun p => by rw [dlApp_keys, T.ks], fun e he => ?_⟩, by simp [dlApp]⟩
    · simp only [appendOp, cellL, at_, hl, if_true]
    · obtain ⟨e0, h0, rfl⟩ := List.mem_map.mp he
      obtain ⟨qs2, f1, f2, f3, f4⟩ := T.it e0 h0
      split
      · rename_i e2
        have : e0 = (a, r, xs) := nodup_key D.nd e0 _ h0 m e2
        subst this
        refine ⟨qs ++ [b], by simp [e1], List.nodup_append.mpr ⟨nd, by simp, fun x hx y hy e => hb (by simp at hy; rw [← hy, ← e]; exact hx)⟩, fun q => ?_, ?_⟩
        · simp only [List.mem_append, List.mem_singleton, hq, Prod.mk.injEq, true_and]
        · rw [List.filter_append, List.map_append]
          refine sb.append ?_
          simp
      · rename_i e2
        refine ⟨qs2, f1, f2, fun q => ?_, ?_⟩
        · rw [f3, List.mem_append]
          simp only [List.mem_singleton, Prod.mk.injEq]
          exact ⟨.inl, fun z => z.elim id fun y => absurd y.1 e2⟩
        · rw [List.filter_append, List.map_append]
          exact f4.trans (List.sublist_append_left _ _)
end
end G89
end

section
set_option Elab.async false
set_option linter.all false
set_option maxRecDepth 100000
set_option autoImplicit false
set_option maxHeartbeats 4000000
/-! W2: the two tables. -/
namespace G89
open PySem PySem.Spec PyProof.Rows L2 TB
def Kp (ms : List Mv) (p : Key) : Prop := ∃ m, m ∈ ms ∧ (p = m.1 ∨ p = m.2)
abbrev Tb := List (Key × List Key)
def tbD (t : Tb) : D := .dic (t.map fun e => (e.1, .lst (e.2.map keyD)))
structure IsTb (ms : List Mv) (t : Tb) : Prop where
  nd : (t.map (·.1)).Nodup
  ks : ∀ p, p ∈ t.map (·.1) ↔ Kp ms p
  it : ∀ e, e ∈ t → e.2.Nodup ∧ (∀ q, q ∈ e.2 ↔ (e.1, q) ∈ ms)
theorem TabK.tb {ms : List Mv} {es : List DE} (T : TabK (Kp ms) ms es) (nd : (es.map (·.1)).Nodup) : ∃ t, IsTb ms t ∧ (es.map fun e => (e.1, D.lst e.2.2)) = t.map (fun e => (e.1, D.lst (e.2.map keyD))) ∧ (∀ e, e ∈ t → e.2.Sublist ((ms.filter fun m => decide (m.1 = e.1)).map (·.2))) := by
  have h : ∀ (l : List DE), (∀ e, e ∈ l → e ∈ es) → ∃ t : Tb, t.map (·.1) = l.map (·.1) ∧ (l.map fun e => (e.1, D.lst e.2.2)) = t.map (fun e => (e.1, D.lst (e.2.map keyD))) ∧ ∀ e, e ∈ t → e.2.Nodup ∧ (∀ q, q ∈ e.2 ↔ (e.1, q) ∈ ms) ∧ e.2.Sublist ((ms.filter fun m => decide (m.1 = e.1)).map (·.2)) := fun l => by
    induction l with
    | nil => exact fun _ => ⟨[], rfl, rfl, fun e h => by cases h⟩
    | cons e l ih =>
      intro hl
      obtain ⟨t, t1, t2, t3⟩ := ih fun x hx => hl x (List.mem_cons_of_mem _ hx)
      obtain ⟨qs, q1, q2, q3, q4⟩ := T.it e (hl e List.mem_cons_self)
      refine ⟨(e.1, qs) :: t, by simp [t1], by simp [t2, q1], fun x hx => ?_⟩
      rcases List.mem_cons.mp hx with rfl | hx
      · exact ⟨q2, q3, q4⟩
      · exact t3 x hx
  obtain ⟨t, t1, t2, t3⟩ := h es fun _ h => h
  exact ⟨t, ⟨by rw [t1]; exact nd, fun p => by rw [t1]; exact T.ks p, fun e he => ⟨(t3 e he).1, (t3 e he).2.1⟩⟩, t2, fun e he => (t3 e he).2.2⟩
theorem kp_hk {ms : List Mv} : ∀ m, m ∈ ms → Kp ms m.1 := fun m h => ⟨m, h, .inl rfl⟩
theorem kp_snoc {ms : List Mv} {m : Mv} {p : Key} : ((Kp ms p ∨ p = m.1) ∨ p = m.2) ↔ Kp (ms ++ [m]) p := by
  constructor
  · rintro ((⟨x, hx, e⟩ | e) | e)
    · exact ⟨x, List.mem_append_left _ hx, e⟩
    · exact ⟨m, by simp, .inl e⟩
    · exact ⟨m, by simp, .inr e⟩
  · rintro ⟨x, hx, e⟩
    rcases List.mem_append.mp hx with hx | hx
    · exact .inl (.inl ⟨x, hx, e⟩)
    · simp at hx
      subst hx
      rcases e with e | e
      · exact .inl (.inr e)
      · exact .inr e
theorem frz_tab {h : Hh} {es : List DE} {ms : List Mv} (D : DL 0 h es) (T : TabK (Kp ms) ms es) : ∃ t, IsTb ms t ∧ t.length = es.length ∧ finG 0 (.ref 0) h = .ok (tbD t) [] ∧ (∀ e, e ∈ t → e.2.Sublist ((ms.filter fun m => decide (m.1 = e.1)).map (·.2))) := by
  obtain ⟨t, t1, t2, t3⟩ := T.tb D.nd
  refine ⟨t, t1, by simpa using (congrArg List.length t2).symm, ?_, t3⟩
  have := D.frz (j := 0) (Nat.le_refl _) (fun _ _ => Nat.zero_le _) (fun e he x hx => by
    obtain ⟨qs, q1, _⟩ := T.it e he
    rw [q1] at hx
    obtain ⟨k, _, rfl⟩ := List.mem_map.mp hx
    exact (key_pv k 0).low 0)
  unfold finG
  rw [this]
  simp [tbD, t2]
theorem dic_ref {h : Hh} {es : List DE} (D : DL 0 h es) : isTy .dic h (.ref 0) = true := by simp [isTy, kin, D.cell]
theorem callG_ok {f : SM} {n : Nat} {ds : List D} {h : Hh} {Q : D → Hh → Prop} (o : OkS (f (startD n ds) h) (fun _ h1 => Okv (fin false h.length .non h1) Q) (fun v h1 => Okv (finG h.length v h1) Q) (fun _ _ => False) fun _ _ => False) : Okv (callG f n ds h) Q := by
  unfold callG
  obtain ⟨fl, h1, e, p⟩ := o
  rw [e]
  cases fl with
  | nx s => exact p
  | rt v => exact p
  | bk s => exact p.elim
  | ct s => exact p.elim
  | rs e s => exact p.elim
theorem lst_true {h : Hh} : lstOp true [] h = .ok (.ref h.length) (h ++ [Ob.lst []]) := by simp [lstOp, mkL]
theorem law_table_ok (ms : List Mv) (hl : ms.length ≤ 500) : ∃ t, IsTb ms t ∧ t.length ≤ 2 * ms.length ∧ F_law_table [.lst (ms.map mvD)] [] = .ok (tbD t) [] := by
  have : Okv (F_law_table [.lst (ms.map mvD)] []) fun v h => ∃ t, IsTb ms t ∧ t.length ≤ 2 * ms.length ∧ v = tbD t ∧ h = [] := by
    unfold F_law_table
    refine callG_ok ?_
    unfold m_law_table startD
    have lz : (2000 : Nat) ≤ sizeLine := by decide
    rw [OkS_then, OkS_asg]
    simp [mDict0, mkC]
    refine for_ok (xs := ms.map mvD) (h0 := [Ob.dic []]) (by simp [mIt, mV, itOp]) (fun i s h => ∃ o2 o3 es, s = [some (.lst (ms.map mvD)), some (.ref 0), o2, o3] ∧ DL 0 h es ∧ TabK (Kp (ms.take i)) (ms.take i) es ∧ es.length ≤ 2 * i) ⟨none, none, [], rfl, .nil rfl, ⟨fun p => by simp [Kp], fun e h => by cases h⟩, by simp⟩ ?_ ?_
    · rintro i x s h hx ⟨o2, o3, es, rfl, D0, T0, hn⟩
      rw [List.getElem?_map] at hx
      obtain ⟨m, hm, rfl⟩ := Option.map_eq_some_iff.mp hx
      have hi : i < ms.length := (List.getElem?_eq_some_iff.mp hm).1
      obtain ⟨v1, h1, es1, g1, p1, D1, T1, l1⟩ := ens_get (k := m.1) D0 T0 kp_hk (by omega)
      obtain ⟨v2, h2, es2, g2, p2, D2, T2, l2⟩ := ens_get (k := m.2) D1 T1 (fun x hx => .inl (kp_hk x hx)) (by omega)
      have T3 := T2.imp fun p => kp_snoc (m := m)
      obtain ⟨r, xs, e3, x3, k3, b, i3, n3, a3⟩ := app_tab (a := m.1) (b := m.2) D2 T3 (by rw [List.length_take]; omega) ⟨m, by simp, .inl rfl⟩
      have t0 := dic_ref D0
      have t1 := dic_ref D1
      simp [mvD, gT, gSeq, mMet, mV, mCons, mNil, mApp, lst_true, gSetA, t0, t1, g1, p1, g2, p2, mB, m2, x3, i3]
      rw [take_succ hm]
      cases b with
      | false => simpa using ⟨es2, D2, n3 rfl, by omega⟩
      | true =>
        obtain ⟨h3, es3, q1, q2, q3, q4⟩ := a3 rfl
        simp [k3, q1]
        exact ⟨es3, q2, q3, by omega⟩
    · rintro s h ⟨o2, o3, es, rfl, D0, T0, hn⟩
      rw [List.length_map, List.take_length] at T0
      obtain ⟨t, t1, tl, t2, _⟩ := frz_tab D0 T0
      simp [mV, t2]
      rw [List.length_map] at hn
      exact ⟨t, t1, by omega, rfl⟩
  obtain ⟨v, h, e, t, t1, tl, rfl, rfl⟩ := this
  exact ⟨t, t1, tl, e⟩
end G89
end

section
set_option Elab.async false
set_option linter.all false
set_option maxRecDepth 100000
set_option autoImplicit false
set_option maxHeartbeats 4000000
/-! W3: moves_of. -/
namespace G89
open PySem PySem.Spec PyProof.Rows L2 TB
def fcD (m : Mv) : D := .tup [.str (Str.ofString "move"), mvD m]
def restD : List D := [.tup [.str (Str.ofString "moved"), .tup [.int 1, .int 2]], .tup [.str (Str.ofString "a"), .tup []]]
def fcsD (ms : List Mv) : List D := ms.map fcD ++ restD
theorem fcs_pv (ms : List Mv) : ∀ x, x ∈ fcsD ms → Pv 2 x := fun x hx => by
  rcases List.mem_append.mp hx with hx | hx
  · obtain ⟨m, _, rfl⟩ := List.mem_map.mp hx
    refine .tup _ _ fun y hy => ?_
    simp at hy
    rcases hy with rfl | rfl
    · exact .str _ _
    · exact mv_pv _ _
  · simp [restD] at hx
    rcases hx with rfl | rfl <;> refine .tup _ _ fun y hy => ?_ <;> simp at hy <;> rcases hy with rfl | rfl
    · exact .str _ _
    · refine .tup _ _ fun z hz => ?_
      simp at hz
      rcases hz with rfl | rfl <;> exact .int _ _
    · exact .str _ _
    · exact .tup _ _ fun z hz => by simp at hz
theorem ne_moved : ¬ Str.ofString "moved" = Str.ofString "move" := by decide +kernel
theorem ne_a : ¬ Str.ofString "a" = Str.ofString "move" := by decide +kernel
def rowOf (x : D) : Option D := match x with
  | .tup [.str n, r] => if n = Str.ofString "move" then some r else none
  | _ => none
theorem rows_fm (ms : List Mv) : (fcsD ms).filterMap rowOf = ms.map mvD := by
  unfold fcsD
  rw [List.filterMap_append]
  have h1 : (ms.map fcD).filterMap rowOf = ms.map mvD := by
    induction ms with
    | nil => rfl
    | cons m ms ih => simp [List.filterMap_cons, fcD, rowOf, ih]
  have h2 : restD.filterMap rowOf = [] := by simp [restD, rowOf, List.filterMap_cons, ne_moved, ne_a]
  rw [h1, h2, List.append_nil]
theorem rows_lc {ms : List Mv} {s : Sl} {h : Hh} (hs : 5 < s.length) : mLc false (mIt (mV 0)) (gT [(gN 4), (gN 5)]) (mB (m2 eqOp (mV 4) (mC (.str (Str.ofString "move"))))) (mV 5) [4, 5] (s.set 0 (some (.lst (fcsD ms)))) h = .ok (.lst (ms.map mvD)) h := by
  unfold mLc
  have e0 : (mIt (mV 0)) (s.set 0 (some (.lst (fcsD ms)))) h = .ok (fcsD ms, none) h := by
    have : (s.set 0 (some (D.lst (fcsD ms))))[0]? = some (some (.lst (fcsD ms))) := by rw [List.getElem?_set_self (by omega)]
    simp [mIt, mV, this, itOp]
  rw [e0]
  simp only [Res.bind_ok]
  rw [lcL_pure (f := rowOf) (show lockOk none h from trivial) fun x hx => ?_]
  · simp [mkL, rows_fm]
  · have step : ∀ n r, x = .tup [.str n, r] → lcF (gT [(gN 4), (gN 5)]) (mB (m2 eqOp (mV 4) (mC (.str (Str.ofString "move"))))) (mV 5) [4, 5] (s.set 0 (some (.lst (fcsD ms)))) x h = .ok (rowOf x) h := fun n r e => by
      subst e
      have hw : (wip (s.set 0 (some (D.lst (fcsD ms)))) [4, 5]).length = s.length := by rw [wip_length]; simp
      have h4 : ((((wip (s.set 0 (some (D.lst (fcsD ms)))) [4, 5]).set 4 (some (.str n))).set 5 (some r))[4]?) = some (some (.str n)) := by
        rw [List.getElem?_set_ne (by decide), List.getElem?_set_self (by rw [hw]; omega)]
      have h5 : ((((wip (s.set 0 (some (D.lst (fcsD ms)))) [4, 5]).set 4 (some (.str n))).set 5 (some r))[5]?) = some (some r) := by
        rw [List.getElem?_set_self (by rw [List.length_set, hw]; omega)]
      by_cases q : n = Str.ofString "move"
      · subst q
        simp [lcF, bnd, gT, gSeq, mB, m2, mV, mC, h4, h5, rowOf]
      · simp [lcF, bnd, gT, gSeq, mB, m2, mV, mC, h4, q, rowOf]
    rcases List.mem_append.mp hx with hx | hx
    · obtain ⟨m, _, rfl⟩ := List.mem_map.mp hx
      exact step _ _ rfl
    · simp [restD] at hx
      rcases hx with rfl | rfl <;> exact step _ _ rfl
theorem moves_of_ok (ms : List Mv) (hl : ms.length ≤ 500) : ∃ t, IsTb ms t ∧ t.length ≤ 2 * ms.length ∧ (∀ e, e ∈ t → e.2.Pairwise fun a b => leD (kyD a) (kyD b) = true) ∧ F_moves_of [.lst (fcsD ms)] [] = .ok (tbD t) [] := by
  have : Okv (F_moves_of [.lst (fcsD ms)] []) fun v h => ∃ t, IsTb ms t ∧ t.length ≤ 2 * ms.length ∧ (∀ e, e ∈ t → e.2.Pairwise fun a b => leD (kyD a) (kyD b) = true) ∧ v = tbD t ∧ h = [] := by
    unfold F_moves_of
    refine callG_ok ?_
    unfold m_moves_of startD
    have lz : (2000 : Nat) ≤ sizeLine := by decide
    have hsm : ∀ m, m ∈ srt pkD ms ↔ m ∈ ms := fun m => srt_mem pkD
    have hsl := srt_len pkD ms
    have hsp := srt_pair pkD ms
    rw [OkS_then, OkS_asg]
    simp [mDict0, mkC]
    have e1 := rows_lc (ms := ms) (s := [none, some (.ref 0), none, none, none, none]) (h := [Ob.dic []]) (by simp)
    simp only [List.set_cons_zero] at e1
    refine for_ok (xs := (srt pkD ms).map mvD) (h0 := [Ob.dic []]) (by simp [mIt, mApp, mCons, mNil, e1, pair_sort.sorted (x := .lst (ms.map mvD)) (l := ms) (show colOf _ _ = _ by simp [colOf, sqOf, lsOf]), mkL, itOp]) (fun i s h => ∃ o2 o3 o4 o5 es, s = [some (.lst (fcsD ms)), some (.ref 0), o2, o3, o4, o5] ∧ DL 0 h es ∧ TabK (Kp ((srt pkD ms).take i)) ((srt pkD ms).take i) es ∧ es.length ≤ 2 * i) ⟨none, none, none, none, [], rfl, .nil rfl, ⟨fun p => by simp [Kp], fun e h => by cases h⟩, by simp⟩ ?_ ?_
    · rintro i x s h hx ⟨o2, o3, o4, o5, es, rfl, D0, T0, hn⟩
      rw [List.getElem?_map] at hx
      obtain ⟨m, hm, rfl⟩ := Option.map_eq_some_iff.mp hx
      have hi : i < ms.length := by
        have := (List.getElem?_eq_some_iff.mp hm).1
        omega
      obtain ⟨v1, h1, es1, g1, D1, T1, l1⟩ := ens_setd (k := m.1) D0 T0 kp_hk (by omega)
      obtain ⟨v2, h2, es2, g2, D2, T2, l2⟩ := ens_setd (k := m.2) D1 T1 (fun x hx => .inl (kp_hk x hx)) (by omega)
      have T3 := T2.imp fun p => kp_snoc (m := m)
      obtain ⟨r, xs, e3, x3, k3, b, i3, n3, a3⟩ := app_tab (a := m.1) (b := m.2) D2 T3 (by rw [List.length_take]; omega) ⟨m, by simp, .inl rfl⟩
      have t0 := dic_ref D0
      have t1 := dic_ref D1
      simp [mvD, gT, gSeq, mMet, mV, mCons, mNil, mApp, lst_true, t0, t1, g1, g2, mB, m2, x3, i3]
      rw [take_succ hm]
      cases b with
      | false => simpa using ⟨es2, D2, n3 rfl, by omega⟩
      | true =>
        obtain ⟨h3, es3, q1, q2, q3, q4⟩ := a3 rfl
        simp [k3, q1]
        exact ⟨es3, q2, q3, by omega⟩
    · rintro s h ⟨o2, o3, o4, o5, es, rfl, D0, T0, hn⟩
      rw [List.length_map, List.take_length] at T0
      obtain ⟨t, t1, tl, t2, t3⟩ := frz_tab D0 T0
      simp [mV, t2]
      rw [List.length_map] at hn
      refine ⟨t, ⟨t1.nd, fun p => (t1.ks p).trans ?_, fun e he => ⟨(t1.it e he).1, fun q => ((t1.it e he).2 q).trans (hsm _)⟩⟩, by omega, fun a b he => ?_, rfl⟩
      · unfold Kp
        exact ⟨fun ⟨m, h1, h2⟩ => ⟨m, (hsm m).mp h1, h2⟩, fun ⟨m, h1, h2⟩ => ⟨m, (hsm m).mpr h1, h2⟩⟩
      · refine List.Pairwise.sublist (t3 _ he) ?_
        rw [List.pairwise_map]
        have h1 := hsp.sublist (List.filter_sublist (p := fun m : Mv => decide (m.1 = a)))
        refine List.Pairwise.imp_of_mem (fun {a b} ha hb h => ?_) h1
        have ha1 := (List.mem_filter.mp ha).2
        have hb1 := (List.mem_filter.mp hb).2
        exact pair_snd h (by simp at ha1 hb1; rw [ha1, hb1])
  obtain ⟨v, h, e, t, t1, tl, t2, rfl, rfl⟩ := this
  exact ⟨t, t1, tl, t2, e⟩
end G89
end

section
set_option Elab.async false
set_option linter.all false
set_option maxRecDepth 100000
set_option autoImplicit false
set_option maxHeartbeats 4000000
/-! W4: who wins, by rounds. -/
namespace G89
open PySem PySem.Spec PyProof.Rows L2 TB
abbrev Oc := Bool × Nat
def lostOf (f : Key → Option Oc) (ss : List Key) : List Nat := ss.filterMap fun q => match f q with
  | some (false, d) => some d
  | _ => none
def wonAll (f : Key → Option Oc) (ss : List Key) : Bool := ss.all fun q => match f q with
  | some (true, _) => true
  | _ => false
def wonOf (f : Key → Option Oc) (ss : List Key) : List Nat := ss.filterMap fun q => (f q).map (·.2)
def stepv (f : Key → Option Oc) (ss : List Key) : Option Oc := match (lostOf f ss).min? with
  | some d => some (true, d + 1)
  | none => if wonAll f ss = true then some (false, match (wonOf f ss).max? with
    | some d => d + 1
    | none => 0) else none
def val (sc : Key → List Key) : Nat → Key → Option Oc
  | 0, _ => none
  | n + 1, p => stepv (val sc n) (sc p)
def StepW (f : Key → Option Oc) (ss : List Key) (d : Nat) : Prop := (∃ q, q ∈ ss ∧ ∃ e, f q = some (false, e) ∧ d = e + 1) ∧ ∀ q, q ∈ ss → ∀ e, f q = some (false, e) → d ≤ e + 1
def StepL (f : Key → Option Oc) (ss : List Key) (d : Nat) : Prop := (∀ q, q ∈ ss → ∃ e, f q = some (true, e) ∧ e + 1 ≤ d) ∧ (d = 0 ∨ ∃ q, q ∈ ss ∧ ∃ e, f q = some (true, e) ∧ d = e + 1)
section
variable {f : Key → Option Oc} {ss : List Key} {d : Nat}
theorem lost_mem : d ∈ lostOf f ss ↔ ∃ q, q ∈ ss ∧ f q = some (false, d) := by
  unfold lostOf
  rw [List.mem_filterMap]
  constructor
  · rintro ⟨q, h1, h2⟩
    refine ⟨q, h1, ?_⟩
    split at h2
    · rename_i e he; cases h2; exact he
    · cases h2
  · rintro ⟨q, h1, h2⟩
    exact ⟨q, h1, by rw [h2]⟩
theorem won_mem : d ∈ wonOf f ss ↔ ∃ q, q ∈ ss ∧ ∃ b, f q = some (b, d) := by
  unfold wonOf
  rw [List.mem_filterMap]
  constructor
  · rintro ⟨q, h1, h2⟩
    obtain ⟨⟨b, e⟩, h3, rfl⟩ := Option.map_eq_some_iff.mp h2
    exact ⟨q, h1, b, h3⟩
  · rintro ⟨q, h1, b, h2⟩
    exact ⟨q, h1, by rw [h2]; rfl⟩
theorem wonAll_iff : wonAll f ss = true ↔ ∀ q, q ∈ ss → ∃ e, f q = some (true, e) := by
  unfold wonAll
  rw [List.all_eq_true]
  constructor
  · intro h q hq
    have := h q hq
    split at this
    · rename_i e he; exact ⟨e, he⟩
    · cases this
  · intro h q hq
    obtain ⟨e, he⟩ := h q hq
    rw [he]
theorem stepv_w : stepv f ss = some (true, d) ↔ StepW f ss d := by
  unfold stepv
  cases h : (lostOf f ss).min? with
  | some m =>
    have hm := List.min?_eq_some_iff.mp h
    simp only [Option.some.injEq, Prod.mk.injEq, true_and]
    constructor
    · rintro rfl
      obtain ⟨q, q1, q2⟩ := lost_mem.mp hm.1
      exact ⟨⟨q, q1, m, q2, rfl⟩, fun r hr e he => by have := hm.2 e (lost_mem.mpr ⟨r, hr, he⟩); omega⟩
    · rintro ⟨⟨q, q1, e, q2, rfl⟩, h2⟩
      obtain ⟨r, r1, r2⟩ := lost_mem.mp hm.1
      have a := h2 r r1 m r2
      have b := hm.2 e (lost_mem.mpr ⟨q, q1, q2⟩)
      omega
  | none =>
    have hm := List.min?_eq_none_iff.mp h
    constructor
    · intro z
      simp only at z
      split at z
      · cases z
      · cases z
    · rintro ⟨⟨q, q1, e, q2, rfl⟩, _⟩
      have := lost_mem.mpr ⟨q, q1, q2⟩
      rw [hm] at this
      cases this
theorem stepv_l : stepv f ss = some (false, d) ↔ StepL f ss d := by
  unfold stepv
  cases h : (lostOf f ss).min? with
  | some m =>
    have hm := List.min?_eq_some_iff.mp h
    obtain ⟨q, q1, q2⟩ := lost_mem.mp hm.1
    constructor
    · intro z; simp at z
    · rintro ⟨h1, _⟩
      obtain ⟨e, he, _⟩ := h1 q q1
      rw [q2] at he; cases he
  | none =>
    have hm := List.min?_eq_none_iff.mp h
    simp only
    by_cases hw : wonAll f ss = true
    · rw [if_pos hw]
      have hw' := wonAll_iff.mp hw
      cases hx : (wonOf f ss).max? with
      | some m =>
        have hmx := List.max?_eq_some_iff.mp hx
        obtain ⟨r, r1, b, r2⟩ := won_mem.mp hmx.1
        obtain ⟨e, he⟩ := hw' r r1
        rw [r2] at he; cases he
        simp only [Option.some.injEq, Prod.mk.injEq, true_and]
        constructor
        · rintro rfl
          refine ⟨fun q hq => ?_, .inr ⟨r, r1, m, r2, rfl⟩⟩
          obtain ⟨e, he⟩ := hw' q hq
          exact ⟨e, he, by have := hmx.2 e (won_mem.mpr ⟨q, hq, _, he⟩); omega⟩
        · rintro ⟨h1, h2⟩
          obtain ⟨e, he, hle⟩ := h1 r r1
          rw [r2] at he; cases he
          rcases h2 with rfl | ⟨q, q1, e, q2, rfl⟩
          · omega
          · have := hmx.2 e (won_mem.mpr ⟨q, q1, _, q2⟩); omega
      | none =>
        have hmx := List.max?_eq_none_iff.mp hx
        have hs : ss = [] := by
          cases hss : ss with
          | nil => rfl
          | cons q r =>
            obtain ⟨e, he⟩ := hw' q (by rw [hss]; exact List.mem_cons_self)
            have := won_mem.mpr ⟨q, (show q ∈ ss by rw [hss]; exact List.mem_cons_self), true, he⟩
            rw [hmx] at this
            cases this
        subst hs
        simp only [Option.some.injEq, Prod.mk.injEq, true_and]
        constructor
        · rintro rfl
          exact ⟨(fun q hq => by cases hq), .inl rfl⟩
        · rintro ⟨_, h2⟩
          rcases h2 with rfl | ⟨q, q1, _⟩
          · rfl
          · cases q1
    · rw [if_neg hw]
      constructor
      · intro z; cases z
      · rintro ⟨h1, _⟩
        exact absurd (wonAll_iff.mpr fun q hq => (h1 q hq).imp fun e h => h.1) hw
end
theorem stepv_won {f : Key → Option Oc} {ss : List Key} (h : ∀ q, q ∈ ss → ∃ e, f q = some (true, e)) : ∃ d, stepv f ss = some (false, d) := by
  unfold stepv
  have : (lostOf f ss).min? = none := by
    rw [List.min?_eq_none_iff]
    cases e : lostOf f ss with
    | nil => rfl
    | cons d r =>
      obtain ⟨q, q1, q2⟩ := lost_mem.mp (show d ∈ lostOf f ss by rw [e]; exact List.mem_cons_self)
      obtain ⟨e, he⟩ := h q q1
      rw [q2] at he; cases he
  rw [this]
  simp only
  rw [if_pos (wonAll_iff.mpr h)]
  exact ⟨_, rfl⟩
theorem stepv_lost {f : Key → Option Oc} {ss : List Key} {q : Key} {e : Nat} (h : q ∈ ss) (hq : f q = some (false, e)) : ∃ d, stepv f ss = some (true, d) := by
  unfold stepv
  cases hm : (lostOf f ss).min? with
  | some d => exact ⟨_, rfl⟩
  | none =>
    have := lost_mem.mpr ⟨q, h, hq⟩
    rw [List.min?_eq_none_iff.mp hm] at this
    cases this
section
variable (sc : Key → List Key)
theorem val_depth : ∀ (n : Nat) (p : Key) (b : Bool) (d : Nat), val sc n p = some (b, d) → d < n ∧ (b = true ↔ d % 2 = 1)
  | 0, p, b, d, h => by cases h
  | n + 1, p, b, d, h => by
    cases b with
    | true =>
      obtain ⟨⟨q, q1, e, q2, rfl⟩, _⟩ := stepv_w.mp h
      have := val_depth n q _ _ q2
      simp at this ⊢
      omega
    | false =>
      obtain ⟨h1, h2⟩ := stepv_l.mp h
      rcases h2 with rfl | ⟨q, q1, e, q2, rfl⟩
      · simp
      · have := val_depth n q _ _ q2
        simp at this ⊢
        omega
/-- what is known with less is known already -/
theorem val_less : ∀ (n : Nat) (p : Key) (b : Bool) (d : Nat), (val sc (n + 1) p = some (b, d) → d < n → val sc n p = some (b, d)) ∧ (val sc n p = some (b, d) → val sc (n + 1) p = some (b, d))
  | 0, p, b, d => ⟨fun _ h => absurd h (Nat.not_lt_zero _), fun h => by cases h⟩
  | n + 1, p, b, d => by
    have L := fun q b d => (val_less n q b d).1
    have M := fun q b d => (val_less n q b d).2
    have low : ∀ q b d, val sc (n + 1) q = some (b, d) → d < n → val sc n q = some (b, d) := L
    constructor
    · intro h hd
      cases b with
      | true =>
        obtain ⟨⟨q, q1, e, q2, rfl⟩, h2⟩ := stepv_w.mp h
        exact stepv_w.mpr ⟨⟨q, q1, e, L q _ _ q2 (by omega), rfl⟩, fun r hr e he => h2 r hr e (M r _ _ he)⟩
      | false =>
        obtain ⟨h1, h2⟩ := stepv_l.mp h
        refine stepv_l.mpr ⟨fun q hq => ?_, ?_⟩
        · obtain ⟨e, he, hle⟩ := h1 q hq
          exact ⟨e, L q _ _ he (by omega), hle⟩
        · rcases h2 with rfl | ⟨q, q1, e, q2, rfl⟩
          · exact .inl rfl
          · exact .inr ⟨q, q1, e, L q _ _ q2 (by omega), rfl⟩
    · intro h
      have hd := (val_depth sc _ _ _ _ h).1
      cases b with
      | true =>
        obtain ⟨⟨q, q1, e, q2, rfl⟩, h2⟩ := stepv_w.mp h
        refine stepv_w.mpr ⟨⟨q, q1, e, M q _ _ q2, rfl⟩, fun r hr e' he => ?_⟩
        by_cases hlt : e' < n
        · exact h2 r hr e' (L r _ _ he hlt)
        · omega
      | false =>
        obtain ⟨h1, h2⟩ := stepv_l.mp h
        refine stepv_l.mpr ⟨fun q hq => ?_, ?_⟩
        · obtain ⟨e, he, hle⟩ := h1 q hq
          exact ⟨e, M q _ _ he, hle⟩
        · rcases h2 with rfl | ⟨q, q1, e, q2, rfl⟩
          · exact .inl rfl
          · exact .inr ⟨q, q1, e, M q _ _ q2, rfl⟩
theorem val_up {n m : Nat} (h : n ≤ m) {p : Key} {v : Oc} (e : val sc n p = some v) : val sc m p = some v := by
  induction h with
  | refl => exact e
  | step _ ih => exact (val_less sc _ _ _ _).2 ih
theorem val_at {n : Nat} {p : Key} {b : Bool} {d : Nat} (e : val sc n p = some (b, d)) : val sc (d + 1) p = some (b, d) := by
  have hd := (val_depth sc _ _ _ _ e).1
  induction n with
  | zero => omega
  | succ n ih =>
    by_cases h : d < n
    · exact ih ((val_less sc _ _ _ _).1 e h) h
    · have : n = d := by omega
      subst this
      exact e
/-- what is new comes with the count -/
theorem val_new {c : Nat} {p : Key} {b : Bool} {d : Nat} (h : val sc (c + 1) p = some (b, d)) (hn : val sc c p = none) : d = c := by
  have h1 := (val_depth sc _ _ _ _ h).1
  by_cases h2 : d < c
  · have := (val_less sc _ _ _ _).1 h h2
    rw [hn] at this; cases this
  · omega
/-- one round of the program -/
theorem val_round (c : Nat) (p : Key) : val sc (c + 1) p = match val sc c p with
    | some v => some v
    | none => if c % 2 = 0 ∧ wonAll (val sc c) (sc p) = true then some (false, c) else if c % 2 = 1 ∧ lostOf (val sc c) (sc p) ≠ [] then some (true, c) else none := by
  cases hv : val sc c p with
  | some v => exact (val_less sc _ _ _ _).2 hv
  | none =>
    simp only
    cases hn : val sc (c + 1) p with
    | some v =>
      obtain ⟨b, d⟩ := v
      have hd := val_new sc hn hv
      subst hd
      have par := (val_depth sc _ _ _ _ hn).2
      cases b with
      | true =>
        have : d % 2 = 1 := par.mp rfl
        obtain ⟨⟨q, q1, e, q2, _⟩, _⟩ := stepv_w.mp hn
        rw [if_neg (by omega), if_pos ⟨this, fun z => by
          have := lost_mem.mpr ⟨q, q1, q2⟩
          rw [z] at this; cases this⟩]
      | false =>
        have : d % 2 = 0 := by
          have : ¬ d % 2 = 1 := fun z => by have := par.mpr z; cases this
          omega
        obtain ⟨h1, _⟩ := stepv_l.mp hn
        rw [if_pos ⟨this, wonAll_iff.mpr fun q hq => (h1 q hq).imp fun e h => h.1⟩]
    | none =>
      rw [if_neg, if_neg]
      · rintro ⟨_, h⟩
        cases e : lostOf (val sc c) (sc p) with
        | nil => exact h e
        | cons d r =>
          obtain ⟨q, q1, q2⟩ := lost_mem.mp (show d ∈ lostOf (val sc c) (sc p) by rw [e]; exact List.mem_cons_self)
          obtain ⟨d, hd⟩ := stepv_lost q1 q2
          have : val sc (c + 1) p = some (true, d) := hd
          rw [hn] at this; cases this
      · rintro ⟨_, h⟩
        obtain ⟨d, hd⟩ := stepv_won (wonAll_iff.mp h)
        have : val sc (c + 1) p = some (false, d) := hd
        rw [hn] at this; cases this
end
end G89
end

section
set_option Elab.async false
set_option linter.all false
set_option maxRecDepth 100000
set_option autoImplicit false
set_option maxHeartbeats 4000000
/-! W5: the rounds end; what is right. -/
namespace G89
open PySem PySem.Spec PyProof.Rows L2 TB
theorem stepv_congr {f g : Key → Option Oc} {ss tt : List Key} (h : ∀ q, q ∈ ss ↔ q ∈ tt) (hf : ∀ q, q ∈ ss → f q = g q) : stepv f ss = stepv g tt := by
  have key : ∀ {f g : Key → Option Oc} {ss tt : List Key} (h : ∀ q, q ∈ ss ↔ q ∈ tt) (hf : ∀ q, q ∈ ss → f q = g q) (v : Oc), stepv f ss = some v → stepv g tt = some v := fun {f g ss tt} h hf v e0 => by
    obtain ⟨b, d⟩ := v
    cases b with
    | true =>
      obtain ⟨⟨q, q1, e, q2, rfl⟩, h2⟩ := stepv_w.mp e0
      exact stepv_w.mpr ⟨⟨q, (h q).mp q1, e, by rw [← hf q q1]; exact q2, rfl⟩, fun r hr e he => h2 r ((h r).mpr hr) e (by rw [hf r ((h r).mpr hr)]; exact he)⟩
    | false =>
      obtain ⟨h1, h2⟩ := stepv_l.mp e0
      refine stepv_l.mpr ⟨fun q hq => ?_, ?_⟩
      · obtain ⟨e, he, hle⟩ := h1 q ((h q).mpr hq)
        exact ⟨e, by rw [← hf q ((h q).mpr hq)]; exact he, hle⟩
      · rcases h2 with rfl | ⟨q, q1, e, q2, rfl⟩
        · exact .inl rfl
        · exact .inr ⟨q, (h q).mp q1, e, by rw [← hf q q1]; exact q2, rfl⟩
  refine Option.ext fun v => ⟨key h hf v, key (fun q => (h q).symm) (fun q hq => (hf q ((h q).mpr hq)).symm) v⟩
theorem val_congr {sc sd : Key → List Key} (h : ∀ p q, q ∈ sc p ↔ q ∈ sd p) : ∀ (n : Nat) (p : Key), val sc n p = val sd n p
  | 0, _ => rfl
  | n + 1, p => stepv_congr (h p) fun q _ => val_congr h n q
section
variable (sc : Key → List Key) (ks : List Key)
def Stab (c : Nat) : Prop := ∀ p, p ∈ ks → val sc (c + 1) p = val sc c p
theorem stab_next (cl : ∀ p, p ∈ ks → ∀ q, q ∈ sc p → q ∈ ks) {c : Nat} (h : Stab sc ks c) : Stab sc ks (c + 1) := fun p hp =>
  stepv_congr (fun q => Iff.rfl) fun q hq => h q (cl p hp q hq)
theorem stab_all (cl : ∀ p, p ∈ ks → ∀ q, q ∈ sc p → q ∈ ks) {c n : Nat} (h : Stab sc ks c) (hn : c ≤ n) : ∀ p, p ∈ ks → val sc n p = val sc c p := by
  have key : ∀ m, Stab sc ks (c + m) ∧ ∀ p, p ∈ ks → val sc (c + m) p = val sc c p := fun m => by
    induction m with
    | zero => exact ⟨h, fun _ _ => rfl⟩
    | succ m ih => exact ⟨stab_next sc ks cl ih.1, fun p hp => (ih.1 p hp).trans (ih.2 p hp)⟩
  intro p hp
  have := (key (n - c)).2 p hp
  rwa [show c + (n - c) = n by omega] at this
def cnt (c : Nat) : Nat := (ks.filter fun p => (val sc c p).isSome).length
theorem filter_le {α : Type} {p q : α → Bool} : ∀ {l : List α}, (∀ a, a ∈ l → p a = true → q a = true) → (l.filter p).length ≤ (l.filter q).length
  | [], _ => Nat.le_refl _
  | a :: l, h => by
    have ih := filter_le (l := l) fun b hb => h b (List.mem_cons_of_mem _ hb)
    have ha := h a List.mem_cons_self
    simp only [List.filter_cons]
    cases hp : p a with
    | false => cases q a <;> simp <;> omega
    | true => rw [ha hp]; simp; omega
theorem filter_lt {α : Type} {p q : α → Bool} : ∀ {l : List α}, (∀ a, a ∈ l → p a = true → q a = true) → (∃ a, a ∈ l ∧ p a = false ∧ q a = true) → (l.filter p).length < (l.filter q).length
  | [], _, ⟨_, h, _⟩ => by cases h
  | a :: l, h, ⟨b, hb, h1, h2⟩ => by
    have le := filter_le (l := l) fun b hb => h b (List.mem_cons_of_mem _ hb)
    have ha := h a List.mem_cons_self
    simp only [List.filter_cons]
    rcases List.mem_cons.mp hb with rfl | hb
    · rw [h1, h2]; simp; omega
    · have ih := filter_lt (l := l) (fun b hb => h b (List.mem_cons_of_mem _ hb)) ⟨b, hb, h1, h2⟩
      cases hp : p a with
      | false => cases q a <;> simp <;> omega
      | true => rw [ha hp]; simp; omega
theorem cnt_le (c : Nat) : cnt sc ks c ≤ ks.length := List.length_filter_le _ _
theorem cnt_up (c : Nat) : cnt sc ks c ≤ cnt sc ks (c + 1) := filter_le fun p _ h => by
  obtain ⟨v, hv⟩ := Option.isSome_iff_exists.mp h
  rw [(val_less sc c p v.1 v.2).2 hv]; rfl
theorem cnt_new {c : Nat} {p : Key} (hp : p ∈ ks) (h1 : val sc c p = none) (h2 : val sc (c + 1) p ≠ none) : cnt sc ks c < cnt sc ks (c + 1) :=
  filter_lt (fun p _ h => by
    obtain ⟨v, hv⟩ := Option.isSome_iff_exists.mp h
    rw [(val_less sc c p v.1 v.2).2 hv]; rfl) ⟨p, hp, by rw [h1]; rfl, by
      cases h : val sc (c + 1) p with
      | none => exact absurd h h2
      | some v => rfl⟩
theorem stab_of_none {c : Nat} (h : ∀ p, p ∈ ks → val sc c p = none → val sc (c + 1) p = none) : Stab sc ks c := fun p hp => by
  cases hv : val sc c p with
  | none => exact h p hp hv
  | some v => exact (val_less sc c p v.1 v.2).2 hv
theorem stab_ex : ∃ c, c ≤ ks.length ∧ Stab sc ks c := by
  refine Classical.byContradiction fun hn => ?_
  have st : ∀ c, c ≤ ks.length → cnt sc ks c < cnt sc ks (c + 1) := fun c hc => by
    refine Classical.byContradiction fun h => hn ⟨c, hc, stab_of_none sc ks fun p hp h1 => ?_⟩
    refine Classical.byContradiction fun h2 => h (cnt_new sc ks hp h1 h2)
  have key : ∀ c, c ≤ ks.length + 1 → c ≤ cnt sc ks c := fun c => by
    induction c with
    | zero => exact fun _ => Nat.zero_le _
    | succ c ih =>
      intro hc
      have := ih (by omega)
      have := st c (by omega)
      omega
  have h1 := key (ks.length + 1) (Nat.le_refl _)
  have h2 := cnt_le sc ks (ks.length + 1)
  omega
/-- what is settled in the end -/
def fin_ : Key → Option Oc := val sc ks.length
theorem fin_ge (cl : ∀ p, p ∈ ks → ∀ q, q ∈ sc p → q ∈ ks) {n : Nat} (hn : ks.length ≤ n) {p : Key} (hp : p ∈ ks) : val sc n p = fin_ sc ks p := by
  obtain ⟨c, hc, hs⟩ := stab_ex sc ks
  unfold fin_
  rw [stab_all sc ks cl hs (by omega) p hp, stab_all sc ks cl hs hc p hp]
theorem fin_stab (cl : ∀ p, p ∈ ks → ∀ q, q ∈ sc p → q ∈ ks) {c : Nat} (hs : Stab sc ks c) {p : Key} (hp : p ∈ ks) : val sc c p = fin_ sc ks p := by
  rw [← fin_ge sc ks cl (n := c + ks.length) (by omega) hp, stab_all sc ks cl hs (show c ≤ c + ks.length by omega) p hp]
theorem fin_at (cl : ∀ p, p ∈ ks → ∀ q, q ∈ sc p → q ∈ ks) {p : Key} (hp : p ∈ ks) {b : Bool} {d : Nat} : fin_ sc ks p = some (b, d) ↔ val sc (d + 1) p = some (b, d) := by
  constructor
  · exact fun h => val_at sc h
  · intro h
    have := val_up sc (show d + 1 ≤ d + 1 + ks.length by omega) h
    rw [fin_ge sc ks cl (by omega) hp] at this
    exact this
theorem fin_step (cl : ∀ p, p ∈ ks → ∀ q, q ∈ sc p → q ∈ ks) {p : Key} (hp : p ∈ ks) : stepv (fin_ sc ks) (sc p) = fin_ sc ks p := by
  rw [← fin_ge sc ks cl (n := ks.length + 1) (by omega) hp]
  rfl
/-! ### what is right -/
/-- a told outcome is right beside those of the other ends -/
def Okp (G : Key → Option (Option Oc)) (ss : List Key) (x : Option (Option Oc)) : Prop := match x with
  | none => False
  | some none => (∃ q, q ∈ ss ∧ G q = some none) ∧ ∀ q, q ∈ ss → ∀ e, G q ≠ some (some (false, e))
  | some (some (true, d)) => StepW (fun q => (G q).join) ss d
  | some (some (false, d)) => (∀ q, q ∈ ss → ∃ e, G q = some (some (true, e))) ∧ StepL (fun q => (G q).join) ss d
theorem join_iff {x : Option (Option Oc)} {v : Oc} : x.join = some v ↔ x = some (some v) := by
  cases x with
  | none => simp
  | some y => simp
theorem okp_iff (cl : ∀ p, p ∈ ks → ∀ q, q ∈ sc p → q ∈ ks) (G : Key → Option (Option Oc)) : (∀ p, p ∈ ks → Okp G (sc p) (G p)) ↔ ∀ p, p ∈ ks → G p = some (fin_ sc ks p) := by
  constructor
  · intro h
    have S : ∀ d, ∀ p, p ∈ ks → ∀ b, (G p = some (some (b, d)) ↔ val sc (d + 1) p = some (b, d)) := by
      intro d
      induction d using Nat.strongRecOn with
      | ind d ih =>
        intro p hp b
        have hk := h p hp
        have sub := cl p hp
        have toV : ∀ q, q ∈ sc p → ∀ b e, e < d → G q = some (some (b, e)) → val sc d q = some (b, e) := fun q hq b e he hg =>
          val_up sc (show e + 1 ≤ d by omega) ((ih e he q (sub q hq) b).mp hg)
        have toG : ∀ q, q ∈ sc p → ∀ b e, val sc d q = some (b, e) → G q = some (some (b, e)) := fun q hq b e he =>
          (ih e (val_depth sc _ _ _ _ he).1 q (sub q hq) b).mpr (val_at sc he)
        constructor
        · intro hg
          rw [hg] at hk
          cases b with
          | true =>
            obtain ⟨⟨q, q1, e, q2, rfl⟩, h2⟩ := hk
            refine stepv_w.mpr ⟨⟨q, q1, e, toV q q1 _ _ (by omega) (join_iff.mp q2), rfl⟩, fun r hr e' he => ?_⟩
            exact h2 r hr e' (join_iff.mpr (toG r hr _ _ he))
          | false =>
            obtain ⟨_, h1, h2⟩ := hk
            refine stepv_l.mpr ⟨fun q hq => ?_, ?_⟩
            · obtain ⟨e, he, hle⟩ := h1 q hq
              exact ⟨e, toV q hq _ _ (by omega) (join_iff.mp he), hle⟩
            · rcases h2 with rfl | ⟨q, q1, e, q2, rfl⟩
              · exact .inl rfl
              · exact .inr ⟨q, q1, e, toV q q1 _ _ (by omega) (join_iff.mp q2), rfl⟩
        · intro hv
          cases b with
          | true =>
            obtain ⟨⟨q, q1, e, q2, rfl⟩, h2⟩ := stepv_w.mp hv
            have gq := toG q q1 _ _ q2
            cases hg : G p with
            | none => rw [hg] at hk; exact hk.elim
            | some y =>
              rw [hg] at hk
              cases y with
              | none => exact absurd gq (hk.2 q q1 e)
              | some v =>
                obtain ⟨b, d'⟩ := v
                cases b with
                | false =>
                  obtain ⟨e', he⟩ := hk.1 q q1
                  rw [gq] at he; cases he
                | true =>
                  obtain ⟨⟨r, r1, e', r2, rfl⟩, h3⟩ := hk
                  have a1 := h3 q q1 e (join_iff.mpr gq)
                  have a2 := h2 r r1 e' (toV r r1 _ _ (by omega) (join_iff.mp r2))
                  have : e' = e := by omega
                  rw [this]
          | false =>
            obtain ⟨h1, h2⟩ := stepv_l.mp hv
            have gw : ∀ q, q ∈ sc p → ∃ e, G q = some (some (true, e)) ∧ e + 1 ≤ d := fun q hq => by
              obtain ⟨e, he, hle⟩ := h1 q hq
              exact ⟨e, toG q hq _ _ he, hle⟩
            cases hg : G p with
            | none => rw [hg] at hk; exact hk.elim
            | some y =>
              rw [hg] at hk
              cases y with
              | none =>
                obtain ⟨⟨q, q1, q2⟩, _⟩ := hk
                obtain ⟨e, he, _⟩ := gw q q1
                rw [q2] at he; cases he
              | some v =>
                obtain ⟨b, d'⟩ := v
                cases b with
                | true =>
                  obtain ⟨⟨r, r1, e', r2, rfl⟩, h3⟩ := hk
                  obtain ⟨e, he, _⟩ := gw r r1
                  rw [join_iff.mp r2] at he; cases he
                | false =>
                  obtain ⟨_, k1, k2⟩ := hk
                  have : d' = d := by
                    rcases k2 with rfl | ⟨q, q1, e, q2, rfl⟩ <;> rcases h2 with rfl | ⟨r, r1, e', r2, rfl⟩
                    · rfl
                    · obtain ⟨e, he, hle⟩ := k1 r r1
                      omega
                    · obtain ⟨e, he, hle⟩ := h1 q q1
                      omega
                    · obtain ⟨x, hx, hxl⟩ := k1 r r1
                      obtain ⟨y, hy, hyl⟩ := h1 q q1
                      have a := toG r r1 _ _ r2
                      rw [join_iff.mp hx] at a; cases a
                      have b := toG q q1 _ _ hy
                      rw [join_iff.mp q2] at b; cases b
                      omega
                  rw [this]
    intro p hp
    have hk := h p hp
    cases hf : fin_ sc ks p with
    | some v =>
      obtain ⟨b, d⟩ := v
      exact (S d p hp b).mpr ((fin_at sc ks cl hp).mp hf)
    | none =>
      cases hg : G p with
      | none => rw [hg] at hk; exact hk.elim
      | some y =>
        cases y with
        | none => rfl
        | some v =>
          obtain ⟨b, d⟩ := v
          have := (fin_at sc ks cl hp).mpr ((S d p hp b).mp hg)
          rw [hf] at this; cases this
  · intro h p hp
    have sub := cl p hp
    have hs := fin_step sc ks cl hp
    have G2 : ∀ q, q ∈ sc p → (G q).join = fin_ sc ks q := fun q hq => by rw [h q (sub q hq)]; rfl
    have cg : stepv (fun q => (G q).join) (sc p) = fin_ sc ks p := by
      rw [← hs]
      exact stepv_congr (fun q => Iff.rfl) G2
    rw [h p hp]
    cases hf : fin_ sc ks p with
    | some v =>
      obtain ⟨b, d⟩ := v
      rw [hf] at cg
      cases b with
      | true => exact stepv_w.mp cg
      | false =>
        have := stepv_l.mp cg
        exact ⟨fun q hq => (this.1 q hq).imp fun e h => join_iff.mp h.1, this⟩
    | none =>
      rw [hf] at cg
      have nl : ∀ q, q ∈ sc p → ∀ e, G q ≠ some (some (false, e)) := fun q hq e he => by
        obtain ⟨d, hd⟩ := stepv_lost (f := fun q => (G q).join) hq (join_iff.mpr he)
        rw [cg] at hd; cases hd
      refine ⟨Classical.byContradiction fun hn => ?_, nl⟩
      have all : ∀ q, q ∈ sc p → ∃ e, (G q).join = some (true, e) := fun q hq => by
        have hg := h q (sub q hq)
        cases hx : fin_ sc ks q with
        | none => exact absurd ⟨q, hq, by rw [hg, hx]⟩ hn
        | some v =>
          obtain ⟨b, e⟩ := v
          cases b with
          | true => exact ⟨e, by rw [hg, hx]; rfl⟩
          | false => exact absurd (by rw [hg, hx]) (nl q hq e)
      obtain ⟨d, hd⟩ := stepv_won all
      rw [cg] at hd; cases hd
end
end G89
end

section
set_option Elab.async false
set_option linter.all false
set_option maxRecDepth 100000
set_option autoImplicit false
set_option maxHeartbeats 4000000
/-! W6: settled. -/
namespace G89
open PySem PySem.Spec PyProof.Rows L2 TB
def wd (b : Bool) : Str := if b = true then Str.ofString "win" else Str.ofString "lose"
def ocD (o : Oc) : D := .tup [.str (wd o.1), .int o.2]
theorem oc_pv (o : Oc) (k : Nat) : Pv (k + 1) (ocD o) := .tup _ _ fun x hx => by
  simp at hx
  rcases hx with rfl | rfl
  · exact .str _ _
  · exact .int _ _
theorem wd_ne : Str.ofString "win" ≠ Str.ofString "lose" := by decide +kernel
theorem str_eqv : Eqv D.str := ⟨fun a b => by simp [eqv, eq_dec], fun a => .str _ _⟩
/-- the moves from a place -/
def adj (ms : List Mv) (p : Key) : List Key := (ms.filter fun m => decide (m.1 = p)).map (·.2)
theorem adj_mem {ms : List Mv} {p q : Key} : q ∈ adj ms p ↔ (p, q) ∈ ms := by
  unfold adj
  rw [List.mem_map]
  constructor
  · rintro ⟨m, h, rfl⟩
    obtain ⟨h1, h2⟩ := List.mem_filter.mp h
    simp only [decide_eq_true_eq] at h2
    rw [← h2]
    exact h1
  · exact fun h => ⟨(p, q), List.mem_filter.mpr ⟨h, by simp⟩, rfl⟩
section
variable {ms : List Mv} {t : Tb}
abbrev kys (t : Tb) : List Key := t.map (·.1)
theorem IsTb.cl (T : IsTb ms t) : ∀ p, p ∈ kys t → ∀ q, q ∈ adj ms p → q ∈ kys t := fun p _ q hq => (T.ks q).mpr ⟨(p, q), adj_mem.mp hq, .inr rfl⟩
theorem IsTb.row (T : IsTb ms t) {p : Key} (hp : p ∈ kys t) : ∃ qs, (p, qs) ∈ t ∧ qs.Nodup ∧ (∀ q, q ∈ qs ↔ q ∈ adj ms p) ∧ (∀ q, q ∈ qs → q ∈ kys t) ∧ ∀ h, ixOp (tbD t) (keyD p) h = .ok (.lst (qs.map keyD)) h := by
  obtain ⟨e, he, rfl⟩ := List.mem_map.mp hp
  have h1 := T.it e he
  have hq : ∀ q, q ∈ e.2 ↔ q ∈ adj ms e.1 := fun q => (h1.2 q).trans adj_mem.symm
  refine ⟨e.2, he, h1.1, hq, fun q z => T.cl e.1 hp q ((hq q).mp z), fun h => ?_⟩
  have hv : valD (t.map fun e => (e.1, D.lst (e.2.map keyD))) e.1 = some (.lst (e.2.map keyD)) := valD_of (by rw [List.map_map]; exact T.nd) (List.mem_map.mpr ⟨e, he, rfl⟩)
  simp [tbD, ixOp, sqOf, lsOf, dcOf, hv]
theorem IsTb.vc (T : IsTb ms t) {qs : List Key} {p : Key} (hq : ∀ q, q ∈ qs ↔ q ∈ adj ms p) (f : Key → Option Oc) : stepv f qs = stepv f (adj ms p) := stepv_congr hq fun _ _ => rfl
theorem tb_it (t : Tb) (h : Hh) : itOp (tbD t) h = .ok ((kys t).map keyD, none) h := by
  simp [itOp, tbD, kys, List.map_map, Function.comp_def]
/-- a dict of outcomes -/
def FI (K : List Key) (ks : List (Key × D)) (f : Key → Option Oc) : Prop := ∀ p, p ∈ K → valD ks p = (f p).map ocD
theorem valD_merge {gs : List (Key × D)} (nd : (gs.map (·.1)).Nodup) : ∀ (ks : List (Key × D)) (p : Key), valD (mergeD ks gs) p = match valD gs p with
    | some v => some v
    | none => valD ks p := by
  induction gs with
  | nil => intro ks p; rfl
  | cons g gs ih =>
    intro ks p
    rw [List.map_cons, List.nodup_cons] at nd
    show valD (mergeD (putD ks g.1 g.2) gs) p = _
    rw [ih nd.2, valD_putG]
    by_cases hp : p = g.1
    · have : valD gs p = none := valD_none.mpr (by rw [hp]; exact nd.1)
      rw [this]
      simp [valD, hp]
    · have : valD (g :: gs) p = valD gs p := by
        have : ¬ g.1 = p := fun z => hp z.symm
        simp [valD, this]
      rw [this]
      cases valD gs p <;> simp [hp]
/-- what is new in a round -/
def newv (sc : Key → List Key) (c : Nat) (p : Key) : Option Oc := match val sc c p with
  | some _ => none
  | none => if c % 2 = 0 ∧ wonAll (val sc c) (sc p) = true then some (false, c) else if c % 2 = 1 ∧ lostOf (val sc c) (sc p) ≠ [] then some (true, c) else none
theorem val_newv (sc : Key → List Key) (c : Nat) (p : Key) : val sc (c + 1) p = match newv sc c p with
    | some v => some v
    | none => val sc c p := by
  rw [val_round]
  unfold newv
  cases val sc c p with
  | some v => rfl
  | none =>
    simp only
    split
    · rfl
    · split <;> rfl
def wds (f : Key → Option Oc) (qs : List Key) : List Str := qs.filterMap fun q => (f q).map fun o => wd o.1
theorem wds_len (f : Key → Option Oc) (qs : List Key) : (wds f qs).length ≤ qs.length := List.length_filterMap_le _ _
theorem wds_won {f : Key → Option Oc} : ∀ {qs : List Key}, wds f qs = List.replicate qs.length (Str.ofString "win") ↔ wonAll f qs = true
  | [] => by simp [wds, wonAll]
  | q :: qs => by
    have ih := wds_won (f := f) (qs := qs)
    have hl := wds_len f qs
    unfold wds wonAll at ih ⊢
    unfold wds at hl
    cases hq : f q with
    | none =>
      simp only [List.filterMap_cons, hq, Option.map_none, List.all_cons, Bool.false_and, Bool.false_eq_true, iff_false]
      intro z
      have := congrArg List.length z
      simp at this
      omega
    | some v =>
      obtain ⟨b, d⟩ := v
      cases b with
      | true =>
        simp only [List.filterMap_cons, hq, Option.map_some, List.all_cons, Bool.true_and, List.length_cons, List.replicate_succ, List.cons.injEq]
        rw [← ih]
        simp [wd]
      | false =>
        simp only [List.filterMap_cons, hq, Option.map_some, List.all_cons, Bool.false_and, List.length_cons, List.replicate_succ, List.cons.injEq]
        simp [wd, Ne.symm wd_ne]
theorem wds_lost {f : Key → Option Oc} {qs : List Key} : Str.ofString "lose" ∈ wds f qs ↔ lostOf f qs ≠ [] := by
  unfold wds
  rw [List.mem_filterMap]
  constructor
  · rintro ⟨q, hq, h⟩
    obtain ⟨⟨b, d⟩, h1, h2⟩ := Option.map_eq_some_iff.mp h
    cases b with
    | true => exact absurd h2 wd_ne
    | false =>
      intro z
      have := lost_mem.mpr ⟨q, hq, h1⟩
      rw [z] at this
      cases this
  · intro h
    cases e : lostOf f qs with
    | nil => exact absurd e h
    | cons d r =>
      obtain ⟨q, q1, q2⟩ := lost_mem.mp (show d ∈ lostOf f qs by rw [e]; exact List.mem_cons_self)
      exact ⟨q, q1, by rw [q2]; rfl⟩
theorem lost_congr {f : Key → Option Oc} {ss tt : List Key} (h : ∀ q, q ∈ ss ↔ q ∈ tt) : lostOf f ss ≠ [] ↔ lostOf f tt ≠ [] := by
  have key : ∀ {ss tt : List Key}, (∀ q, q ∈ ss ↔ q ∈ tt) → lostOf f ss ≠ [] → lostOf f tt ≠ [] := fun {ss tt} h h1 z => by
    cases e : lostOf f ss with
    | nil => exact h1 e
    | cons d r =>
      obtain ⟨q, q1, q2⟩ := lost_mem.mp (show d ∈ lostOf f ss by rw [e]; exact List.mem_cons_self)
      have := lost_mem.mpr ⟨q, (h q).mp q1, q2⟩
      rw [z] at this
      cases this
  exact ⟨key h, key fun q => (h q).symm⟩
theorem won_congr {f : Key → Option Oc} {ss tt : List Key} (h : ∀ q, q ∈ ss ↔ q ∈ tt) : wonAll f ss = true ↔ wonAll f tt = true := by
  rw [wonAll_iff, wonAll_iff]
  exact ⟨fun z q hq => z q ((h q).mpr hq), fun z q hq => z q ((h q).mp hq)⟩
theorem fi_in {K : List Key} {ks : List (Key × D)} {f : Key → Option Oc} (F : FI K ks f) {p : Key} (hp : p ∈ K) {neg : Bool} {h : Hh} (h0 : h[0]? = some (.dic ks)) : inOp neg (keyD p) (.ref 0) h = .ok (.bl (neg != (f p).isSome)) h := by
  have hk := keyOf_keyD p
  cases p <;> simp only [keyD] at hk ⊢ <;> simp [inOp, sqOf, lsOf, h0, dcOf, hk, F _ hp]
theorem fi_ix {K : List Key} {ks : List (Key × D)} {f : Key → Option Oc} (F : FI K ks f) {p : Key} (hp : p ∈ K) {v : Oc} (hv : f p = some v) {h : Hh} (h0 : h[0]? = some (.dic ks)) : ixOp (.ref 0) (keyD p) h = .ok (ocD v) h := by
  have hk := keyOf_keyD p
  cases p <;> simp only [keyD] at hk ⊢ <;> simp [ixOp, sqOf, lsOf, h0, dcOf, hk, F _ hp, hv]
end
end G89
end

section
set_option Elab.async false
set_option linter.all false
set_option maxRecDepth 100000
set_option autoImplicit false
set_option maxHeartbeats 4000000
/-! W7: settled, the walk. -/
namespace G89
open PySem PySem.Spec PyProof.Rows L2 TB
section
variable {ms : List Mv} {t : Tb}
theorem ends_ok (T : IsTb ms t) {p : Key} {qs : List Key} {ks : List (Key × D)} {f : Key → Option Oc} (F : FI (kys t) ks f) (hsub : ∀ q, q ∈ qs → q ∈ kys t) (hix : ∀ h, ixOp (tbD t) (keyD p) h = .ok (.lst (qs.map keyD)) h) {a2 a3 a4 a6 a7 : Option D} {h : Hh} (h0 : h[0]? = some (.dic ks)) :
    mLc false (mIt (m2 ixOp (mV 0) (mV 5))) (gN 7) (mB (m2 (inOp false) (mV 7) (mV 1))) (m2 ixOp (m2 ixOp (mV 1) (mV 7)) (mC (.int 0))) [7] [some (tbD t), some (.ref 0), a2, a3, a4, some (keyD p), a6, a7] h = .ok (.lst ((wds f qs).map D.str)) h := by
  rw [mLc_map (e := keyD) (l := qs) (f := fun q => (f q).map fun o => D.str (wd o.1)) (by simp [mIt, m2, mV, hix, itOp])]
  · congr 2
    unfold wds
    rw [List.map_filterMap]
    congr 1
    funext q
    cases f q <;> rfl
  · intro q hq
    have hi := fun h' : h[0]? = some (.dic ks) => fi_in (neg := false) F (hsub q hq) h'
    cases hv : f q with
    | none => simp [lcF, bnd, wip, mB, m2, mV, hi h0, hv]
    | some v => simp [lcF, bnd, wip, mB, m2, mV, mC, hi h0, hv, fi_ix F (hsub q hq) hv h0, ocD]
def gsOf (sc : Key → List Key) (c : Nat) (l : List Key) : List (Key × D) := l.filterMap fun p => (newv sc c p).map fun o => (p, ocD o)
theorem gs_keys (sc : Key → List Key) (c : Nat) (l : List Key) : ((gsOf sc c l).map (·.1)).Sublist l := by
  induction l with
  | nil => exact List.Sublist.refl _
  | cons p l ih =>
    unfold gsOf at ih ⊢
    rw [List.filterMap_cons]
    cases newv sc c p with
    | none => exact ih.cons p
    | some v => exact ih.cons_cons p
theorem gs_val {sc : Key → List Key} {c : Nat} {l : List Key} (nd : l.Nodup) {p : Key} (hp : p ∈ l) : valD (gsOf sc c l) p = (newv sc c p).map ocD := by
  cases hn : newv sc c p with
  | some v => exact valD_of ((gs_keys sc c l).nodup nd) (List.mem_filterMap.mpr ⟨p, hp, by rw [hn]; rfl⟩)
  | none =>
    refine valD_none.mpr fun z => ?_
    obtain ⟨⟨k, d⟩, h1, rfl⟩ := List.mem_map.mp z
    obtain ⟨q, hq, h2⟩ := List.mem_filterMap.mp h1
    obtain ⟨o, ho, h3⟩ := Option.map_eq_some_iff.mp h2
    cases h3
    rw [hn] at ho; cases ho
theorem gs_snoc (sc : Key → List Key) (c : Nat) (l : List Key) (p : Key) : gsOf sc c (l ++ [p]) = gsOf sc c l ++ ((newv sc c p).map fun o => (p, ocD o)).toList := by
  unfold gsOf
  rw [List.filterMap_append]
  congr 1
noncomputable def mBody : SM := (sThen (sAsg (mLc false (mIt (m2 ixOp (mV 0) (mV 5))) (gN 7) (mB (m2 (inOp false) (mV 7) (mV 1))) (m2 ixOp (m2 ixOp (mV 1) (mV 7)) (mC (.int 0))) [7]) (gN 6))
    (sIf (mAnd (mB (m2 (inOp true) (mV 5) (mV 1))) (mAnd (mB (m2 eqOp (m2 modOp (mV 2) (mC (.int 2))) (mC (.int 0)))) (mB (m2 eqOp (mV 6) (m2 (repOp false) (mApp (lstOp false) (mCons (mC (.str (Str.ofString "win"))) mNil)) (mApp lenOp (mCons (m2 ixOp (mV 0) (mV 5)) mNil))))))) (sAsg (mApp tupOp (mCons (mC (.str (Str.ofString "lose"))) (mCons (mV 2) mNil))) (gSetA (mV 4) (mV 5))) (sIf (mAnd (mB (m2 (inOp true) (mV 5) (mV 1))) (mAnd (mB (m2 eqOp (m2 modOp (mV 2) (mC (.int 2))) (mC (.int 1)))) (mB (m2 (inOp false) (mC (.str (Str.ofString "lose"))) (mV 6))))) (sAsg (mApp tupOp (mCons (mC (.str (Str.ofString "win"))) (mCons (mV 2) mNil))) (gSetA (mV 4) (mV 5))) sNil)))
theorem oc_l {c : Nat} : ocD (false, c) = .tup [.str (Str.ofString "lose"), .int c] := by simp [ocD, wd]
theorem oc_w {c : Nat} : ocD (true, c) = .tup [.str (Str.ofString "win"), .int c] := by simp [ocD, wd]
theorem rep_ok {h : Hh} {n : Nat} (hn : n ≤ 1000) : repOp false (.lst [.str (Str.ofString "win")]) (.int (n : Nat)) h = .ok (.lst ((List.replicate n (Str.ofString "win")).map D.str)) h := by
  have lz : (1000 : Nat) ≤ sizeLine := by decide
  have e : (List.replicate n [D.str (Str.ofString "win")]).flatten = List.replicate n (D.str (Str.ofString "win")) := by
    induction n with
    | zero => rfl
    | succ n ih => rw [List.replicate_succ, List.replicate_succ, List.flatten_cons, ih (by omega)]; rfl
  have h1 : (-(2 ^ 63) ≤ (n : Int)) ∧ (n : Int) < 2 ^ 63 ∧ n ≤ sizeLine := by omega
  have h2 : (n : Int) < 9223372036854775808 := by omega
  simp [repOp, lsOf, mkL, e, h1.2.2, h2]
theorem lst_str_eqv : Eqv (fun l : List Str => D.lst (l.map D.str)) := ⟨fun a b => by simp [eqv, str_eqv.evs], fun a => .lst _ _ fun x hx => by
  obtain ⟨y, _, rfl⟩ := List.mem_map.mp hx
  exact .str _ _⟩
/-- one place of a round -/
theorem body_ok (T : IsTb ms t) (hsz : t.length ≤ 500) {p : Key} (hp : p ∈ kys t) {ks : List (Key × D)} {c n : Nat} {l : List Key} (F : FI (kys t) ks (val (adj ms) c)) (hpl : p ∉ l) (hl : l.length ≤ 500) (hn : 0 < n) {a3 a6 a7 : Option D} {h : Hh} (h0 : h[0]? = some (.dic ks)) (h1 : h[n]? = some (.dic (gsOf (adj ms) c l))) {B C R : _} :
    OkS (mBody [some (tbD t), some (.ref 0), some (.int (c : Nat)), a3, some (.ref n), some (keyD p), a6, a7] h)
      (fun s h' => ∃ o6, s = [some (tbD t), some (.ref 0), some (.int (c : Nat)), a3, some (.ref n), some (keyD p), o6, a7] ∧ h'[0]? = some (.dic ks) ∧ h'[n]? = some (.dic (gsOf (adj ms) c (l ++ [p]))) ∧ h'.length = h.length) R B C := by
  obtain ⟨qs, m, nd, hq, hsub, hix⟩ := T.row hp
  have lz : (1000 : Nat) ≤ sizeLine := by decide
  have hql : qs.length ≤ 500 := by
    have : qs.length ≤ (kys t).length := by
      have := List.Nodup.length_le_of_subset nd hsub
      exact this
    rw [List.length_map] at this
    omega
  have hi := fun (neg : Bool) => fi_in (neg := neg) F hp h0
  have hmod : ∀ h, modOp (.int (c : Nat)) (.int 2) h = .ok (.int ((c % 2 : Nat) : Int)) h := fun h => by simp
  have hc0 : ∀ h : Hh, eqOp (.int ((c % 2 : Nat) : Int)) (.int 0) h = .ok (.bl (decide (c % 2 = 0))) h := fun h => by
    rw [TB.eq_int]
    congr 2
    rw [Bool.eq_iff_iff]
    simp
    omega
  have hc1 : ∀ h : Hh, eqOp (.int ((c % 2 : Nat) : Int)) (.int 1) h = .ok (.bl (decide (c % 2 = 1))) h := fun h => by
    rw [TB.eq_int]
    congr 2
    rw [Bool.eq_iff_iff]
    simp
    omega
  have hset : ∀ (o : Oc), newv (adj ms) c p = some o → setAOp (.ref n) (keyD p) (ocD o) h = .ok () (h.set n (.dic (gsOf (adj ms) c (l ++ [p])))) := fun o ho => by
    have hg : (gsOf (adj ms) c l).length < sizeLine := by
      have := (gs_keys (adj ms) c l).length_le
      rw [List.length_map] at this
      omega
    have hk : p ∉ (gsOf (adj ms) c l).map (·.1) := fun z => hpl ((gs_keys (adj ms) c l).subset z)
    simp only [setAOp, h1, keyOf_keyD, hg, if_true, putD_keys_out hk, gs_snoc, ho, Option.map_some, Option.toList]
  have hlen := (List.getElem?_eq_some_iff.mp h1).1
  have s0 : ∀ x, (h.set n x)[0]? = some (.dic ks) := fun x => by rw [List.getElem?_set_ne (by omega)]; exact h0
  have sn : ∀ x, (h.set n x)[n]? = some x := fun x => by rw [List.getElem?_set_self hlen]
  unfold mBody
  rw [OkS_then, OkS_asg, ends_ok T F hsub hix h0, Okv_ok, gN_ok, Okv_ok]
  rw [OkS_if]
  simp only [List.set_cons_zero, List.set_cons_succ]
  have hrep := fun h => rep_ok (h := h) (n := qs.length) (by omega)
  have hW1 : (wds (val (adj ms) c) qs = List.replicate qs.length (Str.ofString "win")) ↔ wonAll (val (adj ms) c) (adj ms p) = true := wds_won.trans (won_congr hq)
  have hL1 : (Str.ofString "lose" ∈ wds (val (adj ms) c) qs) ↔ lostOf (val (adj ms) c) (adj ms p) ≠ [] := wds_lost.trans (lost_congr hq)
  obtain ⟨s, hs⟩ : ∃ s : Sl, s = [some (tbD t), some (.ref 0), some (.int (c : Nat)), a3, some (.ref n), some (keyD p), some (.lst ((wds (val (adj ms) c) qs).map D.str)), a7] := ⟨_, rfl⟩
  rw [← hs]
  have s0' : s[0]? = some (some (tbD t)) := by rw [hs]; rfl
  have s1' : s[1]? = some (some (.ref 0)) := by rw [hs]; rfl
  have s2' : s[2]? = some (some (.int (c : Nat))) := by rw [hs]; rfl
  have s4' : s[4]? = some (some (.ref n)) := by rw [hs]; rfl
  have s5' : s[5]? = some (some (keyD p)) := by rw [hs]; rfl
  have s6' : s[6]? = some (some (.lst ((wds (val (adj ms) c) qs).map D.str))) := by rw [hs]; rfl
  have v : ∀ {i : Nat} {d : D}, s[i]? = some (some d) → (mV i) s h = .ok d h := fun e => by simp [mV, e]
  have tA : mB (m2 (inOp true) (mV 5) (mV 1)) s h = .ok (!(val (adj ms) c p).isSome) h := mB_ok ((m2_ok (v s5') (v s1')).trans (by rw [hi]; simp))
  have tM : m2 modOp (mV 2) (mC (.int 2)) s h = .ok (.int ((c % 2 : Nat) : Int)) h := (m2_ok (v s2') rfl).trans (hmod h)
  have tB : mB (m2 eqOp (m2 modOp (mV 2) (mC (.int 2))) (mC (.int 0))) s h = .ok (decide (c % 2 = 0)) h := mB_ok ((m2_ok tM rfl).trans (hc0 h))
  have tB1 : mB (m2 eqOp (m2 modOp (mV 2) (mC (.int 2))) (mC (.int 1))) s h = .ok (decide (c % 2 = 1)) h := mB_ok ((m2_ok tM rfl).trans (hc1 h))
  have tC : ∃ b, mB (m2 eqOp (mV 6) (m2 (repOp false) (mApp (lstOp false) (mCons (mC (.str (Str.ofString "win"))) mNil)) (mApp lenOp (mCons (m2 ixOp (mV 0) (mV 5)) mNil)))) s h = .ok b h ∧ (b = true ↔ wonAll (val (adj ms) c) (adj ms p) = true) := by
    have h2 : mApp (lstOp false) (mCons (mC (.str (Str.ofString "win"))) mNil) s h = .ok (.lst [.str (Str.ofString "win")]) h := by
      simp [mApp, mCons, mNil, mC]
    have h3 : m2 (repOp false) (mApp (lstOp false) (mCons (mC (.str (Str.ofString "win"))) mNil)) (mApp lenOp (mCons (m2 ixOp (mV 0) (mV 5)) mNil)) s h = .ok (.lst ((List.replicate qs.length (Str.ofString "win")).map D.str)) h := by
      refine (m2_ok h2 (y := .int (qs.length : Nat)) (h2 := h) ?_).trans (hrep h)
      simp [mApp, mCons, mNil, m2, mV, s0', s5', hix]
    exact ⟨_, mB_ok ((m2_ok (v s6') h3).trans (lst_str_eqv.eq _ _ h)), by rw [decide_eq_true_eq]; exact hW1⟩
  have tD : ∃ b, mB (m2 (inOp false) (mC (.str (Str.ofString "lose"))) (mV 6)) s h = .ok b h ∧ (b = true ↔ lostOf (val (adj ms) c) (adj ms p) ≠ []) :=
    ⟨_, mB_ok ((m2_ok rfl (v s6')).trans (str_eqv.in_ (neg := false) (x := Str.ofString "lose") (l := wds (val (adj ms) c) qs) (by simp [sqOf, lsOf]))), by simp only [Bool.false_bne, memB_true]; exact hL1⟩
  obtain ⟨bC, eC, iC⟩ := tC
  obtain ⟨bD, eD, iD⟩ := tD
  have g4 : ∀ (o : Oc) (w : Str), wd o.1 = w → o.2 = c → newv (adj ms) c p = some o → OkS (sAsg (mApp tupOp (mCons (mC (.str w)) (mCons (mV 2) mNil))) (gSetA (mV 4) (mV 5)) s h) (fun s h' => ∃ o6, s = [some (tbD t), some (.ref 0), some (.int (c : Nat)), a3, some (.ref n), some (keyD p), o6, a7] ∧ h'[0]? = some (.dic ks) ∧ h'[n]? = some (.dic (gsOf (adj ms) c (l ++ [p]))) ∧ h'.length = h.length) R B C := fun o w hw hc hn => by
    have e := hset o hn
    unfold ocD at e
    rw [hw, hc] at e
    rw [OkS_asg]
    simp [mApp, mCons, mNil, mC, mV, s2', s4', s5', gSetA, e, s0, sn]
    exact ⟨_, hs⟩
  have same : newv (adj ms) c p = none → ∃ o6, s = [some (tbD t), some (.ref 0), some (.int (c : Nat)), a3, some (.ref n), some (keyD p), o6, a7] ∧ h[0]? = some (.dic ks) ∧ h[n]? = some (.dic (gsOf (adj ms) c (l ++ [p]))) ∧ h.length = h.length := fun hn => by
    rw [gs_snoc, hn]
    exact ⟨_, hs, h0, by simpa using h1, rfl⟩
  rw [and_ok tA]
  cases hv : val (adj ms) c p with
  | some v =>
    have hnv : newv (adj ms) c p = none := by unfold newv; rw [hv]
    simp only [Option.isSome_some, Bool.not_true, Bool.false_eq_true, if_false, Okv_ok, OkS_if, and_ok tA, hv, OkS_nil]
    exact (same hnv).imp fun o6 z => ⟨z.1, z.2.1, z.2.2.1, by first | trivial | rfl⟩
  | none =>
    simp only [Option.isSome_none, Bool.not_false, if_true, OkS_if, and_ok tA, hv, and_ok tB, and_ok tB1]
    by_cases c0 : c % 2 = 0
    · have c1 : ¬ c % 2 = 1 := by omega
      simp only [c0, decide_true, if_true, eC, Okv_ok, decide_eq_true_eq]
      by_cases hb : bC = true
      · rw [if_pos hb]
        exact g4 (false, c) _ rfl rfl (by unfold newv; rw [hv]; simp [c0, iC.mp hb])
      · rw [if_neg hb]
        simp only [and_ok tA, hv, Option.isSome_none, Bool.not_false, if_true, and_ok tB1, c0, show ¬ (0 = 1) by decide, decide_false, Bool.false_eq_true, if_false, Okv_ok, OkS_nil]
        refine (same ?_).imp fun o6 z => ⟨z.1, z.2.1, z.2.2.1, by first | trivial | rfl⟩
        unfold newv
        rw [hv]
        have : ¬ wonAll (val (adj ms) c) (adj ms p) = true := fun z => hb (iC.mpr z)
        simp [c0, this]
    · have c1 : c % 2 = 1 := by omega
      simp only [c1, show ¬ (1 = 0) by decide, decide_false, Bool.false_eq_true, if_false, Okv_ok, and_ok tA, hv, Option.isSome_none, Bool.not_false, and_ok tB1, decide_true, if_true, eD]
      by_cases hb : bD = true
      · rw [if_pos hb]
        exact g4 (true, c) _ rfl rfl (by unfold newv; rw [hv]; simp [c1, iD.mp hb])
      · rw [if_neg hb, OkS_nil]
        refine (same ?_).imp fun o6 z => ⟨z.1, z.2.1, z.2.2.1, by first | trivial | rfl⟩
        unfold newv
        rw [hv]
        have : ¬ lostOf (val (adj ms) c) (adj ms p) ≠ [] := fun z => hb (iD.mpr z)
        simp only [c1]
        simp only [ne_eq, Classical.not_not] at this
        simp [this]
end
end G89
end

section
set_option Elab.async false
set_option linter.all false
set_option maxRecDepth 100000
set_option autoImplicit false
set_option maxHeartbeats 4000000
/-! W8: settled, all rounds. -/
namespace G89
open PySem PySem.Spec PyProof.Rows L2 TB
structure FD (K : List Key) (ks : List (Key × D)) (f : Key → Option Oc) : Prop where
  fi : FI K ks f
  nd : (ks.map (·.1)).Nodup
  sub : ∀ k, k ∈ ks.map (·.1) → k ∈ K
  oc : ∀ e, e ∈ ks → ∃ o, e.2 = ocD o
theorem putD_pair {ks : List (Key × D)} {k : Key} {v : D} {e : Key × D} (h : e ∈ putD ks k v) : e ∈ ks ∨ e = (k, v) := by
  unfold putD at h
  split at h
  · obtain ⟨x, hx, rfl⟩ := List.mem_map.mp h
    split
    · rename_i e; exact .inr (by rw [e])
    · exact .inl hx
  · rcases List.mem_append.mp h with h | h
    · exact .inl h
    · simp at h; exact .inr h
theorem merge_nd : ∀ {gs ks : List (Key × D)}, (ks.map (·.1)).Nodup → ((mergeD ks gs).map (·.1)).Nodup
  | [], _, h => h
  | g :: gs, ks, h => merge_nd (gs := gs) (putD_nodup h)
theorem merge_pair : ∀ {gs ks : List (Key × D)} {e : Key × D}, e ∈ mergeD ks gs → e ∈ ks ∨ e ∈ gs
  | [], _, _, h => .inl h
  | g :: gs, ks, e, h => by
    rcases merge_pair (gs := gs) (show e ∈ mergeD (putD ks g.1 g.2) gs from h) with h | h
    · rcases putD_pair h with h | h
      · exact .inl h
      · exact .inr (by rw [h]; exact List.mem_cons_self)
    · exact .inr (List.mem_cons_of_mem _ h)
section
variable {ms : List Mv} {t : Tb}
theorem FD.len {K : List Key} {ks : List (Key × D)} {f : Key → Option Oc} (F : FD K ks f) : ks.length ≤ K.length := by
  have := List.Nodup.length_le_of_subset F.nd F.sub
  simpa using this
theorem FD.next {sc : Key → List Key} {K : List Key} {ks : List (Key × D)} {c : Nat} (nd : K.Nodup) (F : FD K ks (val sc c)) : FD K (mergeD ks (gsOf sc c K)) (val sc (c + 1)) where
  fi := fun p hp => by
    rw [valD_merge ((gs_keys sc c K).nodup nd), gs_val nd hp, val_newv]
    cases newv sc c p with
    | some v => rfl
    | none => exact F.fi p hp
  nd := merge_nd F.nd
  sub := fun k hk => by
    obtain ⟨e, he, rfl⟩ := List.mem_map.mp hk
    rcases merge_pair he with h | h
    · exact F.sub _ (List.mem_map.mpr ⟨e, h, rfl⟩)
    · exact (gs_keys sc c K).subset (List.mem_map.mpr ⟨e, h, rfl⟩)
  oc := fun e he => by
    rcases merge_pair he with h | h
    · exact F.oc e h
    · obtain ⟨p, _, h2⟩ := List.mem_filterMap.mp h
      obtain ⟨o, _, rfl⟩ := Option.map_eq_some_iff.mp h2
      exact ⟨o, rfl⟩
theorem frz_dic {h : Hh} {ks : List (Key × D)} {c : Nat} (h0 : h[c]? = some (.dic ks)) (hl : ∀ e, e ∈ ks → low 0 e.2 = true) : finG 0 (.ref c) h = .ok (.dic ks) [] := by
  have e1 : frzG 0 h 9 (.ref c) = some (.dic ks) := by
    unfold frzG
    have h1 : ¬ low 0 (.ref c) = true := by simp [low]
    rw [if_neg h1]
    simp only [h0]
    rw [frzGs_low (f := 6) fun x hx => by
      obtain ⟨e, he, rfl⟩ := List.mem_map.mp hx
      exact hl e he]
    simp only [Option.map_some]
    rw [zip_maps]
    simp
  unfold finG
  rw [e1]
  simp
def IW (ms : List Mv) (t : Tb) (m : Nat) (s : Sl) (h : Hh) : Prop := ∃ (c idle : Nat) (ks : List (Key × D)) (o4 o5 o6 o7 : Option D), s = [some (tbD t), some (.ref 0), some (.int c), some (.int idle), o4, o5, o6, o7] ∧ h[0]? = some (.dic ks) ∧ FD (kys t) ks (val (adj ms) c) ∧ idle ≤ 2 ∧ (1 ≤ idle → Stab (adj ms) (kys t) c) ∧ m = 3 * (t.length - cnt (adj ms) (kys t) c) + (2 - idle)
theorem settled_ok (T : IsTb ms t) (hsz : t.length ≤ 30) : ∃ ks, F_settled [tbD t] [] = .ok (.dic ks) [] ∧ FD (kys t) ks (fin_ (adj ms) (kys t)) := by
  have lz : (1000 : Nat) ≤ sizeLine := by decide
  have kl : (kys t).length = t.length := by simp [kys]
  have : Okv (F_settled [tbD t] []) fun v h => ∃ ks, v = .dic ks ∧ h = [] ∧ FD (kys t) ks (fin_ (adj ms) (kys t)) := by
    unfold F_settled
    refine callG_ok ?_
    unfold m_settled startD
    rw [OkS_then, OkS_asg]
    simp [mDict0, mkC, mC]
    refine whl_ok (IW ms t) ?_ ?_
    · exact ⟨_, by omega, 0, 0, [], none, none, none, none, rfl, rfl, ⟨(fun p hp => rfl), .nil, (fun k hk => by cases hk), (fun e he => by cases he)⟩, by omega, fun h => by omega, rfl⟩
    · rintro m s h ⟨c, idle, ks, o4, o5, o6, o7, rfl, h0, F, hid, hst, rfl⟩
      have hh : 0 < h.length := (List.getElem?_eq_some_iff.mp h0).1
      by_cases hlt : idle < 2
      · have : decide ((idle : Int) < 2) = true := by simp; omega
        simp [mB, m2, mV, mC, this, mDict0, mkC]
        have ha : (h ++ [Ob.dic []])[0]? = some (.dic ks) := by rw [List.getElem?_append_left hh]; exact h0
        refine for_ok (xs := (kys t).map keyD) (h0 := h ++ [Ob.dic []]) (by simp only [mIt, mV, List.getElem?_cons_zero, Res.bind_ok, tb_it]) (fun i s h' => ∃ o5 o6, s = [some (tbD t), some (.ref 0), some (.int c), some (.int idle), some (.ref h.length), o5, o6, o7] ∧ h'[0]? = some (.dic ks) ∧ h'[h.length]? = some (.dic (gsOf (adj ms) c ((kys t).take i))) ∧ h'.length = h.length + 1) ⟨o5, o6, rfl, ha, by simp [gsOf], by simp⟩ ?_ ?_
        · rintro i x s h' hx ⟨o5, o6, rfl, e0, en, el⟩
          rw [List.getElem?_map] at hx
          obtain ⟨p, hp, rfl⟩ := Option.map_eq_some_iff.mp hx
          have hpm : p ∈ kys t := List.mem_of_getElem? hp
          have hn : p ∉ (kys t).take i := fun z => by
            have hi := (List.getElem?_eq_some_iff.mp hp).1
            have nd : (kys t).Nodup := T.nd
            rw [← List.take_append_drop i (kys t), List.nodup_append] at nd
            refine nd.2.2 p z p ?_ rfl
            rw [List.mem_iff_getElem?]
            exact ⟨0, by rw [List.getElem?_drop]; exact hp⟩
          have B := body_ok T (by omega) hpm F.fi hn (by rw [List.length_take]; omega) hh e0 en (a3 := some (.int idle)) (a6 := o6) (a7 := o7) (B := fun s h' => False) (C := fun s h' => False) (R := fun d h' => False)
          simp only [gN_ok, Okv_ok, List.set_cons_zero, List.set_cons_succ]
          refine OkS.mono B (fun s h2 q => ?_) (fun _ _ z => z.elim) (fun _ _ z => z.elim) (fun _ _ z => z.elim)
          obtain ⟨o6', e1, e2, e3, e4⟩ := q
          rw [take_succ hp]
          exact ⟨_, _, e1, e2, e3, by omega⟩
        · rintro s h' ⟨o5, o6, rfl, e0, en, el⟩
          rw [List.length_map, List.take_length] at en
          have F2 := F.next T.nd
          have gl : (gsOf (adj ms) c (kys t)).length ≤ t.length := by
            have := (gs_keys (adj ms) c (kys t)).length_le
            rw [List.length_map, kl] at this
            exact this
          have hkl := F.len
          have hle := cnt_le (adj ms) (kys t) (c + 1)
          have hup := cnt_up (adj ms) (kys t) c
          have hlen : ∀ h2 : Hh, h2[h.length]? = some (.dic (gsOf (adj ms) c (kys t))) → lenOp [.ref h.length] h2 = .ok (.int ((gsOf (adj ms) c (kys t)).length : Nat)) h2 := fun h2 e => by simp [lenOp, lenN, sqOf, lsOf, dcOf, e]
          have hupd : updOp (.ref 0) [.ref h.length] h' = .ok .non (h'.set 0 (.dic (mergeD ks (gsOf (adj ms) c (kys t))))) := by
            have h1 : ¬ h.length = 0 := by omega
            have h2 : ks.length + (gsOf (adj ms) c (kys t)).length ≤ sizeLine := by omega
            simp [updOp, cellD, e0, h1, dcOf, en, h2]
          have hdic : isTy .dic h' (.ref 0) = true := by simp [isTy, kin, e0]
          have hs0 : ∀ x, (h'.set 0 x)[0]? = some x := fun x => by rw [List.getElem?_set_self (by omega)]
          by_cases hg : (gsOf (adj ms) c (kys t)).length = 0
          · have g2 : ¬ 0 < (gsOf (adj ms) c (kys t)).length := by omega
            have st : Stab (adj ms) (kys t) c := stab_of_none _ _ fun p hp h1 => by
              have gv := gs_val T.nd (sc := adj ms) (c := c) hp
              rw [List.length_eq_zero_iff.mp hg] at gv
              rw [val_newv]
              cases hn : newv (adj ms) c p with
              | none => exact h1
              | some v => rw [hn] at gv; simp [valD] at gv
            simp [mIf, mB, m2, mApp, mCons, mNil, mV, mC, hlen _ en, hg, mMet, hdic, hupd, sAug]
            exact ⟨_, by omega, c + 1, idle + 1, _, some (.ref h.length), o5, o6, o7, by simp, hs0 _, F2, by omega, fun _ => stab_next _ _ T.cl st, rfl⟩
          · have g2 : 0 < (gsOf (adj ms) c (kys t)).length := by omega
            have new : cnt (adj ms) (kys t) c < cnt (adj ms) (kys t) (c + 1) := by
              cases hgs : gsOf (adj ms) c (kys t) with
              | nil => rw [hgs] at g2; simp at g2
              | cons e r =>
                obtain ⟨p, hp, h2⟩ := List.mem_filterMap.mp (show e ∈ gsOf (adj ms) c (kys t) by rw [hgs]; exact List.mem_cons_self)
                obtain ⟨o, ho, _⟩ := Option.map_eq_some_iff.mp h2
                refine cnt_new _ _ hp ?_ ?_
                · unfold newv at ho
                  cases hv : val (adj ms) c p with
                  | none => rfl
                  | some v => rw [hv] at ho; cases ho
                · rw [val_newv, ho]; simp
            simp [mIf, mB, m2, mApp, mCons, mNil, mV, mC, hlen _ en, g2, mMet, hdic, hupd, sAug]
            exact ⟨_, by omega, c + 1, 0, _, some (.ref h.length), o5, o6, o7, by simp, hs0 _, F2, by omega, fun h => by omega, rfl⟩
      · have : decide ((idle : Int) < 2) = false := by simp; omega
        have st := hst (by omega)
        have Ff : FD (kys t) ks (fin_ (adj ms) (kys t)) := ⟨fun p hp => by rw [F.fi p hp, fin_stab _ _ T.cl st hp], F.nd, F.sub, F.oc⟩
        simp [mB, m2, mV, mC, this]
        rw [frz_dic h0 fun e he => by
          obtain ⟨o, eo⟩ := F.oc e he
          rw [eo]
          exact (oc_pv o 0).low 0]
        simp
        exact Ff
  obtain ⟨v, h, e, ks, rfl, rfl, F⟩ := this
  exact ⟨ks, e, F⟩
end
end G89
end

section
set_option Elab.async false
set_option linter.all false
set_option maxRecDepth 100000
set_option autoImplicit false
set_option maxHeartbeats 4000000
/-! W9: what the ends tell. -/
namespace G89
open PySem PySem.Spec PyProof.Rows L2 TB
def eD (f : Key → Option Oc) (q : Key) : D := match f q with
  | some o => ocD o
  | none => .non
theorem eD_pv (f : Key → Option Oc) (q : Key) (k : Nat) : Pv (k + 1) (eD f q) := by
  unfold eD
  cases f q with
  | none => exact .non _
  | some o => exact oc_pv o k
theorem wip_at {s : Sl} {i : Nat} {v : Option D} (h : i < s.length) : ((wip s [i]).set i v)[i]? = some v := by
  rw [List.getElem?_set_self (by rw [wip_length]; exact h)]
theorem win_lose : (Str.ofString "win" == Str.ofString "lose") = false := by simpa using wd_ne
theorem lose_win : (Str.ofString "lose" == Str.ofString "win") = false := by simpa using wd_ne.symm
theorem oc_0 {o : Oc} {h : Hh} : ixOp (ocD o) (.int 0) h = .ok (.str (wd o.1)) h := by simp [ocD]
theorem oc_1 {o : Oc} {h : Hh} : ixOp (ocD o) (.int 1) h = .ok (.int o.2) h := by simp [ocD]
theorem isn_oc {neg : Bool} {o : Oc} {h : Hh} : isOp neg (ocD o) .non h = .ok (.bl (neg != false)) h := by simp [isOp, ocD, isN]
theorem isn_non {neg : Bool} {h : Hh} : isOp neg .non .non h = .ok (.bl (neg != true)) h := by simp [isOp, isN]
theorem wd_lose (b : Bool) : (wd b == Str.ofString "lose") = !b := by cases b <;> simp [wd, wd_ne]
theorem wd_win (b : Bool) : (wd b == Str.ofString "win") = b := by cases b <;> simp [wd, wd_ne.symm]
section
variable {f : Key → Option Oc} {qs : List Key} {s : Sl} {h : Hh} {ie ix : Nat}
theorem ends_it (he : s[ie]? = some (some (.lst (qs.map (eD f))))) : (mIt (mV ie)) s h = .ok (qs.map (eD f), none) h := by simp [mIt, mV, he, itOp]
theorem lost_lc (he : s[ie]? = some (some (.lst (qs.map (eD f))))) (hx : ix < s.length) :
    mLc false (mIt (mV ie)) (gN ix) (mAnd (mB (m2 (isOp true) (mV ix) (mC .non))) (mB (m2 eqOp (m2 ixOp (mV ix) (mC (.int 0))) (mC (.str (Str.ofString "lose")))))) (m2 ixOp (mV ix) (mC (.int 1))) [ix] s h = .ok (.lst ((lostOf f qs).map fun d => D.int (d : Nat))) h := by
  rw [mLc_map (e := eD f) (l := qs) (f := fun q => match f q with
    | some (false, d) => some (D.int (d : Nat))
    | _ => none) (ends_it he)]
  · congr 2
    unfold lostOf
    rw [List.map_filterMap]
    congr 1
    funext q
    cases hq : f q with
    | none => simp
    | some o => obtain ⟨b, d⟩ := o; cases b <;> simp
  · intro q _
    unfold eD
    have w := fun v => wip_at (v := v) hx
    cases hq : f q with
    | none => simp [lcF, bnd, mAnd, mB, m2, mV, mC, w, isn_non]
    | some o =>
      obtain ⟨b, d⟩ := o
      cases b <;> simp [lcF, bnd, mAnd, mB, m2, mV, mC, w, isn_oc, oc_0, oc_1, wd_lose]
theorem nowin_lc (he : s[ie]? = some (some (.lst (qs.map (eD f))))) (hx : ix < s.length) :
    ∃ xs, mLc false (mIt (mV ie)) (gN ix) (mOr (mB (m2 (isOp false) (mV ix) (mC .non))) (mB (m2 neOp (m2 ixOp (mV ix) (mC (.int 0))) (mC (.str (Str.ofString "win")))))) (mV ix) [ix] s h = .ok (.lst xs) h ∧ (xs.length = 0 ↔ wonAll f qs = true) := by
  refine ⟨_, mLc_map (e := eD f) (l := qs) (f := fun q => match f q with
    | some (true, _) => none
    | _ => some (eD f q)) (ends_it he) ?_, ?_⟩
  · intro q _
    unfold eD
    have w := fun v => wip_at (v := v) hx
    cases hq : f q with
    | none => simp [lcF, bnd, mOr, mB, m2, mV, mC, w, isn_non]
    | some o =>
      obtain ⟨b, d⟩ := o
      cases b <;> simp [lcF, bnd, mOr, mB, m2, mV, mC, w, isn_oc, oc_0, oc_1, wd_win]
  · rw [List.length_eq_zero_iff, List.filterMap_eq_nil_iff, wonAll_iff]
    refine forall_congr' fun q => forall_congr' fun hq => ?_
    cases hq : f q with
    | none => simp
    | some o => obtain ⟨b, d⟩ := o; cases b <;> simp
theorem dep_lc (he : s[ie]? = some (some (.lst (qs.map (eD f))))) (hx : ix < s.length) (hw : wonAll f qs = true) :
    mLc false (mIt (mV ie)) (gN ix) tYesM (m2 ixOp (mV ix) (mC (.int 1))) [ix] s h = .ok (.lst ((wonOf f qs).map fun d => D.int (d : Nat))) h := by
  rw [mLc_map (e := eD f) (l := qs) (f := fun q => (f q).map fun o => D.int (o.2 : Nat)) (ends_it he)]
  · congr 2
    unfold wonOf
    rw [List.map_filterMap]
    congr 1
    funext q
    cases hq : f q <;> simp
  · intro q hq
    obtain ⟨e, he⟩ := wonAll_iff.mp hw q hq
    unfold eD
    rw [he]
    have w := fun v => wip_at (v := v) hx
    simp [lcF, bnd, tYesM, m2, mV, mC, w, oc_1]
end
theorem intsOf_nat (l : List Nat) : lsInts [] [.lst (l.map fun d => D.int (d : Nat))] = some (l.map fun d : Nat => (d : Int)) := by
  have := intsOf_map (l.map fun d : Nat => (d : Int))
  rw [List.map_map] at this
  simp only [lsInts, lsOf]
  exact this
theorem lsInts_lst (xs : List D) (h : Hh) : lsInts h [.lst xs] = lsInts [] [.lst xs] := rfl
theorem min_ok {l : List Nat} {d : Nat} (hd : l.min? = some d) (h : Hh) : min1Op [.lst (l.map fun d => D.int (d : Nat))] h = .ok (.int d) h := by
  have hm := List.min?_eq_some_iff.mp hd
  unfold min1Op
  rw [lsInts_lst, intsOf_nat]
  cases l with
  | nil => cases hm.1
  | cons a l =>
    simp only [List.map_cons]
    congr 2
    refine minI_is _ _ _ ?_ fun y hy => ?_
    · have := hm.1
      rcases List.mem_cons.mp this with rfl | z
      · exact List.mem_cons_self
      · exact List.mem_cons_of_mem _ (List.mem_map.mpr ⟨d, z, rfl⟩)
    · rcases List.mem_cons.mp hy with rfl | z
      · have := hm.2 a List.mem_cons_self
        omega
      · obtain ⟨x, hx, rfl⟩ := List.mem_map.mp z
        have := hm.2 x (List.mem_cons_of_mem _ hx)
        omega
theorem max_ok {l : List Nat} {d : Nat} (hd : l.max? = some d) (h : Hh) : max1Op [.lst (l.map fun d => D.int (d : Nat))] h = .ok (.int d) h := by
  have hm := List.max?_eq_some_iff.mp hd
  unfold max1Op
  rw [lsInts_lst, intsOf_nat]
  cases l with
  | nil => cases hm.1
  | cons a l =>
    simp only [List.map_cons]
    congr 2
    refine maxI_is _ _ _ ?_ fun y hy => ?_
    · have := hm.1
      rcases List.mem_cons.mp this with rfl | z
      · exact List.mem_cons_self
      · exact List.mem_cons_of_mem _ (List.mem_map.mpr ⟨d, z, rfl⟩)
    · rcases List.mem_cons.mp hy with rfl | z
      · have := hm.2 a List.mem_cons_self
        omega
      · obtain ⟨x, hx, rfl⟩ := List.mem_map.mp z
        have := hm.2 x (List.mem_cons_of_mem _ hx)
        omega
section
variable {f : Key → Option Oc} {qs : List Key} {s : Sl} {h : Hh} {ie il ix d : Nat}
theorem eWin_ok (hl : s[il]? = some (some (.lst ((lostOf f qs).map fun d => D.int (d : Nat))))) (hd : (lostOf f qs).min? = some d) :
    (mApp tupOp (mCons (mC (.str (Str.ofString "win"))) (mCons (m2 (addOp false) (mC (.int 1)) (mApp min1Op (mCons (mV il) mNil))) mNil))) s h = .ok (ocD (true, d + 1)) h := by
  have hc : (1 : Int) + d = ((d + 1 : Nat) : Int) := by omega
  simp [mApp, mCons, mNil, mC, m2, mV, hl, min_ok hd, ocD, wd, hc]
theorem eLose_ok (he : s[ie]? = some (some (.lst (qs.map (eD f))))) (hx : ix < s.length) (hw : wonAll f qs = true) :
    (mApp tupOp (mCons (mC (.str (Str.ofString "lose"))) (mCons (mIf (mB (m2 gtOp (mApp lenOp (mCons (mV ie) mNil)) (mC (.int 0)))) (m2 (addOp false) (mC (.int 1)) (mApp max1Op (mCons (mLc false (mIt (mV ie)) (gN ix) tYesM (m2 ixOp (mV ix) (mC (.int 1))) [ix]) mNil))) (mC (.int 0))) mNil))) s h =
      .ok (ocD (false, match (wonOf f qs).max? with
        | some d => d + 1
        | none => 0)) h := by
  have hdep := dep_lc (h := h) he hx hw
  cases hm : (wonOf f qs).max? with
  | none =>
    have hq : qs = [] := by
      cases hqs : qs with
      | nil => rfl
      | cons q r =>
        obtain ⟨e, hqe⟩ := wonAll_iff.mp hw q (by rw [hqs]; exact List.mem_cons_self)
        have := won_mem.mpr ⟨q, (show q ∈ qs by rw [hqs]; exact List.mem_cons_self), true, hqe⟩
        rw [List.max?_eq_none_iff.mp hm] at this
        cases this
    subst hq
    simp [mApp, mCons, mNil, mC, m2, mB, mIf, mV, he, ocD, wd]
  | some d =>
    have hq : 0 < qs.length := by
      cases hqs : qs with
      | nil => rw [hqs] at hm; simp [wonOf] at hm
      | cons q r => simp
    have hc : (1 : Int) + d = ((d + 1 : Nat) : Int) := by omega
    simp [mApp, mCons, mNil, mC, m2, mB, mIf, mV, he, hq, hdep, max_ok hm, ocD, wd, hc]
theorem eLose_ex (he : s[ie]? = some (some (.lst (qs.map (eD f))))) (hx : ix < s.length) (hl : (lostOf f qs).min? = none) (hw : wonAll f qs = true) :
    ∃ d, stepv f qs = some (false, d) ∧ (mApp tupOp (mCons (mC (.str (Str.ofString "lose"))) (mCons (mIf (mB (m2 gtOp (mApp lenOp (mCons (mV ie) mNil)) (mC (.int 0)))) (m2 (addOp false) (mC (.int 1)) (mApp max1Op (mCons (mLc false (mIt (mV ie)) (gN ix) tYesM (m2 ixOp (mV ix) (mC (.int 1))) [ix]) mNil))) (mC (.int 0))) mNil))) s h = .ok (ocD (false, d)) h :=
  ⟨_, by unfold stepv; rw [hl]; simp only; rw [if_pos hw] <;> rfl, eLose_ok he hx hw⟩
end
end G89
end

section
set_option Elab.async false
set_option linter.all false
set_option maxRecDepth 100000
set_option autoImplicit false
set_option maxHeartbeats 4000000
/-! W10: _law_outcomes. -/
namespace G89
open PySem PySem.Spec PyProof.Rows L2 TB
def fsOf (sc : Key → List Key) (f : Key → Option Oc) (l : List Key) : List (Key × D) := l.filterMap fun p => (stepv f (sc p)).map fun o => (p, ocD o)
theorem fs_keys (sc : Key → List Key) (f : Key → Option Oc) (l : List Key) : ((fsOf sc f l).map (·.1)).Sublist l := by
  induction l with
  | nil => exact List.Sublist.refl _
  | cons p l ih =>
    unfold fsOf at ih ⊢
    rw [List.filterMap_cons]
    cases stepv f (sc p) with
    | none => exact ih.cons p
    | some v => exact ih.cons_cons p
theorem fs_snoc (sc : Key → List Key) (f : Key → Option Oc) (l : List Key) (p : Key) : fsOf sc f (l ++ [p]) = fsOf sc f l ++ ((stepv f (sc p)).map fun o => (p, ocD o)).toList := by
  unfold fsOf
  rw [List.filterMap_append]
  congr 1
theorem fs_fd {sc : Key → List Key} {f : Key → Option Oc} {K : List Key} (nd : K.Nodup) : FD K (fsOf sc f K) fun p => stepv f (sc p) where
  fi := fun p hp => by
    show valD (fsOf sc f K) p = (stepv f (sc p)).map ocD
    cases hn : stepv f (sc p) with
    | some v => exact valD_of ((fs_keys sc f K).nodup nd) (List.mem_filterMap.mpr ⟨p, hp, by rw [hn]; rfl⟩)
    | none =>
      refine valD_none.mpr fun z => ?_
      obtain ⟨⟨k, d⟩, h1, rfl⟩ := List.mem_map.mp z
      obtain ⟨q, hq, h2⟩ := List.mem_filterMap.mp h1
      obtain ⟨o, ho, h3⟩ := Option.map_eq_some_iff.mp h2
      cases h3
      rw [hn] at ho; cases ho
  nd := (fs_keys sc f K).nodup nd
  sub := fun k hk => (fs_keys sc f K).subset hk
  oc := fun e he => by
    obtain ⟨p, _, h2⟩ := List.mem_filterMap.mp he
    obtain ⟨o, _, rfl⟩ := Option.map_eq_some_iff.mp h2
    exact ⟨o, rfl⟩
section
variable {ms : List Mv} {t : Tb}
theorem fi_get {K : List Key} {ks : List (Key × D)} {f : Key → Option Oc} (F : FI K ks f) {p : Key} (hp : p ∈ K) {c : Nat} {h : Hh} (h0 : h[c]? = some (.dic ks)) : getOp (.ref c) [keyD p] h = .ok (eD f p) h := by
  have e : (valD ks p).getD .non = eD f p := by
    rw [F p hp]
    unfold eD
    cases f p <;> rfl
  simp only [getOp, dcOf, h0, keyOf_keyD, e]
noncomputable def mOBody : SM := (sThen (sAsg (mLc false (mIt (m2 ixOp (mV 0) (mV 4))) (gN 7) tYesM (mMet .dic getOp (mV 1) (mCons (mV 7) mNil)) [7]) (gN 5))
    (sThen (sAsg (mLc false (mIt (mV 5)) (gN 8) (mAnd (mB (m2 (isOp true) (mV 8) (mC .non))) (mB (m2 eqOp (m2 ixOp (mV 8) (mC (.int 0))) (mC (.str (Str.ofString "lose")))))) (m2 ixOp (mV 8) (mC (.int 1))) [8]) (gN 6))
    (sIf (mB (m2 gtOp (mApp lenOp (mCons (mV 6) mNil)) (mC (.int 0)))) (sAsg (mApp tupOp (mCons (mC (.str (Str.ofString "win"))) (mCons (m2 (addOp false) (mC (.int 1)) (mApp min1Op (mCons (mV 6) mNil))) mNil))) (gSetA (mV 3) (mV 4))) (sIf (mB (m2 eqOp (mApp lenOp (mCons (mLc false (mIt (mV 5)) (gN 8) (mOr (mB (m2 (isOp false) (mV 8) (mC .non))) (mB (m2 neOp (m2 ixOp (mV 8) (mC (.int 0))) (mC (.str (Str.ofString "win")))))) (mV 8) [8]) mNil)) (mC (.int 0)))) (sAsg (mApp tupOp (mCons (mC (.str (Str.ofString "lose"))) (mCons (mIf (mB (m2 gtOp (mApp lenOp (mCons (mV 5) mNil)) (mC (.int 0)))) (m2 (addOp false) (mC (.int 1)) (mApp max1Op (mCons (mLc false (mIt (mV 5)) (gN 8) tYesM (m2 ixOp (mV 8) (mC (.int 1))) [8]) mNil))) (mC (.int 0))) mNil))) (gSetA (mV 3) (mV 4))) sNil))))
theorem obody_ok (T : IsTb ms t) (hsz : t.length ≤ 500) {p : Key} (hp : p ∈ kys t) {ks : List (Key × D)} {f : Key → Option Oc} {r n : Nat} {l : List Key} (F : FI (kys t) ks f) (hpl : p ∉ l) (hl : l.length ≤ 500) (hn : r < n) {a2 a5 a6 a7 a8 : Option D} {h : Hh} (h0 : h[r]? = some (.dic ks)) (h1 : h[n]? = some (.dic (fsOf (adj ms) f l))) {B C R : _} :
    OkS (mOBody [some (tbD t), some (.ref r), a2, some (.ref n), some (keyD p), a5, a6, a7, a8] h)
      (fun s h' => ∃ o5 o6, s = [some (tbD t), some (.ref r), a2, some (.ref n), some (keyD p), o5, o6, a7, a8] ∧ h'[r]? = some (.dic ks) ∧ h'[n]? = some (.dic (fsOf (adj ms) f (l ++ [p]))) ∧ h'.length = h.length) R B C := by
  obtain ⟨qs, m, nd, hq, hsub, hix⟩ := T.row hp
  have lz : (1000 : Nat) ≤ sizeLine := by decide
  have hv := T.vc hq f
  have hlen := (List.getElem?_eq_some_iff.mp h1).1
  have hset : ∀ (o : Oc), stepv f (adj ms p) = some o → setAOp (.ref n) (keyD p) (ocD o) h = .ok () (h.set n (.dic (fsOf (adj ms) f (l ++ [p])))) := fun o ho => by
    have hg : (fsOf (adj ms) f l).length < sizeLine := by
      have := (fs_keys (adj ms) f l).length_le
      rw [List.length_map] at this
      omega
    have hk : p ∉ (fsOf (adj ms) f l).map (·.1) := fun z => hpl ((fs_keys (adj ms) f l).subset z)
    simp only [setAOp, h1, keyOf_keyD, hg, if_true, putD_keys_out hk, fs_snoc, ho, Option.map_some, Option.toList]
  have sr : ∀ x, (h.set n x)[r]? = some (.dic ks) := fun x => by rw [List.getElem?_set_ne (by omega)]; exact h0
  have sn : ∀ x, (h.set n x)[n]? = some x := fun x => by rw [List.getElem?_set_self hlen]
  unfold mOBody
  have e1 : (mLc false (mIt (m2 ixOp (mV 0) (mV 4))) (gN 7) tYesM (mMet .dic getOp (mV 1) (mCons (mV 7) mNil)) [7]) [some (tbD t), some (.ref r), a2, some (.ref n), some (keyD p), a5, a6, a7, a8] h = .ok (.lst (qs.map (eD f))) h := by
    rw [mLc_map (e := keyD) (l := qs) (f := fun q => some (eD f q)) (by simp [mIt, m2, mV, hix, itOp])]
    · rw [fm_all]
    · intro q hq
      have hd : isTy .dic h (.ref r) = true := by simp [isTy, kin, h0]
      simp [lcF, bnd, wip, tYesM, mMet, mV, mCons, mNil, hd, fi_get F (hsub q hq) h0]
  rw [OkS_then, OkS_asg, e1, Okv_ok, gN_ok, Okv_ok, OkS_then, OkS_asg]
  simp only [List.set_cons_zero, List.set_cons_succ]
  rw [lost_lc (f := f) (qs := qs) (by rfl) (by simp), Okv_ok, gN_ok, Okv_ok]
  simp only [List.set_cons_zero, List.set_cons_succ]
  rw [OkS_if]
  obtain ⟨s, hs⟩ : ∃ s : Sl, s = [some (tbD t), some (.ref r), a2, some (.ref n), some (keyD p), some (.lst (qs.map (eD f))), some (.lst ((lostOf f qs).map fun d => D.int (d : Nat))), a7, a8] := ⟨_, rfl⟩
  rw [← hs]
  have s3 : s[3]? = some (some (.ref n)) := by rw [hs]; rfl
  have s4 : s[4]? = some (some (keyD p)) := by rw [hs]; rfl
  have s5 : s[5]? = some (some (.lst (qs.map (eD f)))) := by rw [hs]; rfl
  have s6 : s[6]? = some (some (.lst ((lostOf f qs).map fun d => D.int (d : Nat)))) := by rw [hs]; rfl
  have sl : 8 < s.length := by rw [hs]; simp
  have tl : mB (m2 gtOp (mApp lenOp (mCons (mV 6) mNil)) (mC (.int 0))) s h = .ok (decide (0 < (lostOf f qs).length)) h := by
    simp [mB, m2, mApp, mCons, mNil, mV, mC, s6]
  rw [tl, Okv_ok]
  cases hm : (lostOf f qs).min? with
  | some d =>
    have hv2 : stepv f qs = some (true, d + 1) := by unfold stepv; rw [hm]
    have : 0 < (lostOf f qs).length := by
      cases hq : lostOf f qs with
      | nil => rw [hq] at hm; simp at hm
      | cons a b => simp
    rw [if_pos (by simpa using this), OkS_asg, eWin_ok s6 hm, Okv_ok]
    have e := hset _ (hv.symm.trans hv2)
    simp [gSetA, mV, s3, s4, e, sr, sn]
    exact ⟨_, _, hs⟩
  | none =>
    have : lostOf f qs = [] := List.min?_eq_none_iff.mp hm
    rw [this, if_neg (by simp), OkS_if]
    obtain ⟨xs, x1, x2⟩ := nowin_lc (h := h) s5 sl
    have tw : mB (m2 eqOp (mApp lenOp (mCons (mLc false (mIt (mV 5)) (gN 8) (mOr (mB (m2 (isOp false) (mV 8) (mC .non))) (mB (m2 neOp (m2 ixOp (mV 8) (mC (.int 0))) (mC (.str (Str.ofString "win")))))) (mV 8) [8]) mNil)) (mC (.int 0))) s h = .ok (decide (xs.length = 0)) h := by
      refine mB_ok ((m2_ok (x := .int (xs.length : Nat)) (h1 := h) ?_ rfl).trans ?_)
      · simp [mApp, mCons, mNil, x1]
      · rw [TB.eq_int]
        congr 2
        rw [Bool.eq_iff_iff]
        simp
    rw [tw, Okv_ok]
    by_cases hw : wonAll f qs = true
    · obtain ⟨d, hv2, ed⟩ := eLose_ex (h := h) s5 sl hm hw
      rw [if_pos (by simpa using x2.mpr hw), OkS_asg, ed, Okv_ok]
      have e := hset _ (hv.symm.trans hv2)
      simp [gSetA, mV, s3, s4, e, sr, sn]
      exact ⟨_, _, hs⟩
    · have hv2 : stepv f qs = none := by unfold stepv; rw [hm]; simp only; rw [if_neg hw]
      rw [if_neg (by simpa using fun z => hw (x2.mp z)), OkS_nil]
      refine ⟨_, _, hs, h0, ?_, rfl⟩
      rw [fs_snoc, ← hv, hv2]
      simpa using h1
def IO (ms : List Mv) (t : Tb) (i : Nat) (s : Sl) (h : Hh) : Prop := ∃ (r : Nat) (ks : List (Key × D)) (o2 o3 o4 o5 o6 o7 o8 : Option D), s = [some (tbD t), some (.ref r), o2, o3, o4, o5, o6, o7, o8] ∧ h[r]? = some (.dic ks) ∧ FD (kys t) ks (val (adj ms) i)
theorem law_outcomes_ok (T : IsTb ms t) (hsz : t.length ≤ 30) : ∃ ks, F_law_outcomes [tbD t] [] = .ok (.dic ks) [] ∧ FD (kys t) ks (fin_ (adj ms) (kys t)) := by
  have kl : (kys t).length = t.length := by simp [kys]
  have nd : (kys t).Nodup := T.nd
  have : Okv (F_law_outcomes [tbD t] []) fun v h => ∃ ks, v = .dic ks ∧ h = [] ∧ FD (kys t) ks (fin_ (adj ms) (kys t)) := by
    unfold F_law_outcomes
    refine callG_ok ?_
    unfold m_law_outcomes startD
    have hlt : ∀ h, lenOp [tbD t] h = .ok (.int t.length) h := fun h => by simp [lenOp, lenN, tbD, sqOf, lsOf, dcOf]
    rw [OkS_then, OkS_asg]
    simp [mDict0, mkC]
    have hr : cMul 2 (t.length : Int) = true := by simp [cMul]
    have him : (mRng (mCons (m2 (addOp false) (m2 mulAOp (mC (.int 2)) (mApp lenOp (mCons (mV 0) mNil))) (mC (.int 3))) mNil)) [some (tbD t), some (.ref 0), none, none, none, none, none, none, none] [Ob.dic []] = .ok (rngD 0 ((2 * t.length + 3 : Nat) : Int), none) [Ob.dic []] := by
      have h3 : (2 : Int) * t.length + 3 = ((2 * t.length + 3 : Nat) : Int) := by omega
      refine mRng_ok ?_ (by omega)
      rw [← h3]
      simp only [mCons, mNil, m2, mApp, mV, mC, List.getElem?_cons_zero, Res.bind_ok, hlt, mulA_int, TB.mul_int, hr, if_true, TB.add_int]
    refine for_ok (xs := rngD 0 ((2 * t.length + 3 : Nat) : Int)) him (IO ms t) ⟨0, [], none, none, none, none, none, none, none, rfl, rfl, ⟨(fun p hp => rfl), .nil, (fun k hk => by cases hk), (fun e he => by cases he)⟩⟩ ?_ ?_
    · rintro i x s h hx ⟨r, ks, o2, o3, o4, o5, o6, o7, o8, rfl, h0, F⟩
      have hh : r < h.length := (List.getElem?_eq_some_iff.mp h0).1
      have ha : (h ++ [Ob.dic []])[r]? = some (.dic ks) := by rw [List.getElem?_append_left hh]; exact h0
      simp only [gN_ok, Okv_ok, List.set_cons_zero, List.set_cons_succ, OkS_then, OkS_asg, mDict0, mkC]
      refine for_ok (xs := (kys t).map keyD) (h0 := h ++ [Ob.dic []]) (by simp only [mIt, mV, List.getElem?_cons_zero, Res.bind_ok, tb_it]) (fun j s h' => ∃ o4 o5 o6 o7 o8, s = [some (tbD t), some (.ref r), some x, some (.ref h.length), o4, o5, o6, o7, o8] ∧ h'[r]? = some (.dic ks) ∧ h'[h.length]? = some (.dic (fsOf (adj ms) (val (adj ms) i) ((kys t).take j)))) ⟨o4, o5, o6, o7, o8, rfl, ha, by simp [fsOf]⟩ ?_ ?_
      · rintro j y s h' hy ⟨o4, o5, o6, o7, o8, rfl, e0, en⟩
        rw [List.getElem?_map] at hy
        obtain ⟨p, hp, rfl⟩ := Option.map_eq_some_iff.mp hy
        have hpm : p ∈ kys t := List.mem_of_getElem? hp
        have hn : p ∉ (kys t).take j := fun z => by
          have nd2 := nd
          rw [← List.take_append_drop j (kys t), List.nodup_append] at nd2
          refine nd2.2.2 p z p ?_ rfl
          rw [List.mem_iff_getElem?]
          exact ⟨0, by rw [List.getElem?_drop]; exact hp⟩
        have B := obody_ok T (by omega) hpm F.fi hn (by rw [List.length_take]; omega) hh e0 en (a2 := some x) (a5 := o5) (a6 := o6) (a7 := o7) (a8 := o8) (B := fun s h' => False) (C := fun s h' => False) (R := fun d h' => False)
        simp only [gN_ok, Okv_ok, List.set_cons_zero, List.set_cons_succ]
        refine OkS.mono B (fun s h2 q => ?_) (fun _ _ z => z.elim) (fun _ _ z => z.elim) (fun _ _ z => z.elim)
        obtain ⟨o5', o6', e1, e2, e3, _⟩ := q
        rw [take_succ hp]
        exact ⟨_, _, _, _, _, e1, e2, e3⟩
      · rintro s h' ⟨o4, o5, o6, o7, o8, rfl, e0, en⟩
        rw [List.length_map, List.take_length] at en
        simp [mV]
        exact ⟨_, _, _, _, _, _, _, _, _, rfl, en, fs_fd nd⟩
    · rintro s h ⟨r, ks, o2, o3, o4, o5, o6, o7, o8, rfl, h0, F⟩
      rw [rngD_len] at F
      have Ff : FD (kys t) ks (fin_ (adj ms) (kys t)) := ⟨fun p hp => by rw [F.fi p hp, fin_ge _ _ T.cl (by omega) hp], F.nd, F.sub, F.oc⟩
      simp [mV]
      rw [frz_dic h0 fun e he => by
        obtain ⟨o, eo⟩ := F.oc e he
        rw [eo]
        exact (oc_pv o 0).low 0]
      simp
      exact Ff
  obtain ⟨v, h, e, ks, rfl, rfl, F⟩ := this
  exact ⟨ks, e, F⟩
end
end G89
end

section
set_option Elab.async false
set_option linter.all false
set_option maxRecDepth 100000
set_option autoImplicit false
set_option maxHeartbeats 4000000
/-! W11: outcomes, good moves, worth. -/
namespace G89
open PySem PySem.Spec PyProof.Rows L2 TB
def drawD : D := .tup [.str (Str.ofString "draw")]
def odD (x : Option Oc) : D := match x with
  | some o => ocD o
  | none => drawD
theorem od_pv (x : Option Oc) (k : Nat) : Pv (k + 1) (odD x) := by
  cases x with
  | some o => exact oc_pv o k
  | none => exact .tup _ _ fun x hx => by simp at hx; subst hx; exact .str _ _
theorem draw_win : Str.ofString "draw" ≠ Str.ofString "win" := by decide +kernel
theorem draw_lose : Str.ofString "draw" ≠ Str.ofString "lose" := by decide +kernel
theorem low_dic {ks : List (Key × D)} (h : ∀ e, e ∈ ks → low 0 e.2 = true) : low 0 (.dic ks) = true := by
  simp only [low, lowk_eq]
  exact lows_of fun x hx => by
    obtain ⟨e, he, rfl⟩ := List.mem_map.mp hx
    exact h e he
theorem tb_low (t : Tb) : low 0 (tbD t) = true := low_dic fun e he => by
  obtain ⟨x, _, rfl⟩ := List.mem_map.mp he
  exact (Pv.lst 0 _ fun y hy => by
    obtain ⟨k, _, rfl⟩ := List.mem_map.mp hy
    exact key_pv k 0).low 0
/-- a call with data or dicts -/
theorem call_low {F : FM} {ds : List D} {h : Hh} {v : D} (hd : ∀ d, d ∈ ds → low 0 d = true ∧ ∀ n, d ≠ .ref n) (e : F ds [] = .ok v []) (hv : low 0 v = true) (hn : ∀ n, v ≠ .ref n) : callOp F ds h = .ok v h := by
  have key : ∀ {ds : List D}, (∀ d, d ∈ ds → low 0 d = true ∧ ∀ n, d ≠ .ref n) → refsOf ds = [] ∧ argLow ds = true ∧ ∀ n, renD n ds = ds := fun {ds} => by
    induction ds with
    | nil => exact fun _ => ⟨rfl, rfl, fun _ => rfl⟩
    | cons d ds ih =>
      intro h
      obtain ⟨h1, h2, h3⟩ := ih fun e he => h e (List.mem_cons_of_mem _ he)
      obtain ⟨a, b⟩ := h d List.mem_cons_self
      cases d <;> simp_all [refsOf, argLow, renD]
  obtain ⟨h1, h2, h3⟩ := key hd
  exact call_pure h1 h2 (h3 0) e hv hn
section
variable {ms : List Mv} {t : Tb}
theorem moves_call {ms : List Mv} {t : Tb} {h : Hh} (e : F_moves_of [.lst (fcsD ms)] [] = .ok (tbD t) []) : callOp F_moves_of [.lst (fcsD ms)] h = .ok (tbD t) h :=
  call_low (fun d hd => by simp at hd; subst hd; exact ⟨(Pv.lst 2 _ (fcs_pv ms)).low 0, fun n z => by cases z⟩) e (tb_low t) fun n z => by cases z
theorem FD.low {K : List Key} {ks : List (Key × D)} {f : Key → Option Oc} (F : FD K ks f) : TB.low 0 (.dic ks) = true := low_dic fun e he => by
  obtain ⟨o, eo⟩ := F.oc e he
  rw [eo]
  exact (oc_pv o 0).low 0
theorem settled_call {ks : List (Key × D)} {f : Key → Option Oc} {K : List Key} (F : FD K ks f) {h : Hh} (e : F_settled [tbD t] [] = .ok (.dic ks) []) : callOp F_settled [tbD t] h = .ok (.dic ks) h :=
  call_low (fun d hd => by simp at hd; subst hd; exact ⟨tb_low t, fun n z => by cases z⟩) e F.low fun n z => by cases z
theorem tb_col (t : Tb) (h : Hh) : colOf h (tbD t) = some ((kys t).map keyD) := by
  simp [colOf, tbD, sqOf, lsOf, dcOf, kys, List.map_map, Function.comp_def]
theorem fi_getd {K : List Key} {ks : List (Key × D)} {f : Key → Option Oc} (F : FI K ks f) {p : Key} (hp : p ∈ K) {h : Hh} : getOp (.dic ks) [keyD p, drawD] h = .ok (odD (f p)) h := by
  have e : (valD ks p).getD drawD = odD (f p) := by
    rw [F p hp]
    unfold odD
    cases f p <;> rfl
  simp only [getOp, dcOf, keyOf_keyD, e]
theorem fi_get1 {K : List Key} {ks : List (Key × D)} {f : Key → Option Oc} (F : FI K ks f) {p : Key} (hp : p ∈ K) {h : Hh} : getOp (.dic ks) [keyD p] h = .ok (eD f p) h := by
  have e : (valD ks p).getD .non = eD f p := by
    rw [F p hp]
    unfold eD
    cases f p <;> rfl
  simp only [getOp, dcOf, keyOf_keyD, e]
theorem fd_in {K : List Key} {ks : List (Key × D)} {f : Key → Option Oc} (F : FI K ks f) {p : Key} (hp : p ∈ K) {neg : Bool} {h : Hh} : inOp neg (keyD p) (.dic ks) h = .ok (.bl (neg != (f p).isSome)) h := by
  have hk := keyOf_keyD p
  cases p <;> simp only [keyD] at hk ⊢ <;> simp [inOp, sqOf, lsOf, dcOf, hk, F _ hp]
theorem fd_ix {K : List Key} {ks : List (Key × D)} {f : Key → Option Oc} (F : FI K ks f) {p : Key} (hp : p ∈ K) {v : Oc} (hv : f p = some v) {h : Hh} : ixOp (.dic ks) (keyD p) h = .ok (ocD v) h := by
  have hk := keyOf_keyD p
  cases p <;> simp only [keyD] at hk ⊢ <;> simp [ixOp, sqOf, lsOf, dcOf, hk, F _ hp, hv]
/-- what is due -/
def rowsD (f : Key → Option Oc) (K : List Key) : List D := K.map fun p => .tup [keyD p, odD (f p)]
theorem rows_pv (f : Key → Option Oc) (K : List Key) (k : Nat) : ∀ x, x ∈ rowsD f K → Pv (k + 2) x := fun x hx => by
  obtain ⟨p, _, rfl⟩ := List.mem_map.mp hx
  refine .tup _ _ fun y hy => ?_
  simp at hy
  rcases hy with rfl | rfl
  · exact key_pv _ _
  · exact od_pv _ _
theorem draw_e {s : Sl} {h : Hh} : mApp tupOp (mCons (mC (.str (Str.ofString "draw"))) mNil) s h = .ok drawD h := by simp [mApp, mCons, mNil, mC, drawD]
theorem kys_perm {t t2 : Tb} (T : IsTb ms t) (T2 : IsTb ms t2) : (kys t).Perm (kys t2) := perm_mem T.nd T2.nd fun a => (T.ks a).trans (T2.ks a).symm
theorem fin_same {t t2 : Tb} (T : IsTb ms t) (T2 : IsTb ms t2) : fin_ (adj ms) (kys t) = fin_ (adj ms) (kys t2) := by
  unfold fin_
  rw [(kys_perm T T2).length_eq]
theorem outcomes_ok (T : IsTb ms t) (hm : ms.length ≤ 12) : F_outcomes [.lst (fcsD ms)] [] = .ok (.tup (rowsD (fin_ (adj ms) (kys t)) (srt kyD (kys t)))) [] := Okv.is (by
  obtain ⟨t2, T2, hl, _, e2⟩ := moves_of_ok ms (by omega)
  obtain ⟨ks, e3, F⟩ := settled_ok T2 (by omega)
  rw [fin_same T T2, key_sort.perm (kys_perm T T2)]
  unfold F_outcomes
  refine callF_ok ?_
  unfold m_outcomes startD
  rw [OkS_then, OkS_asg]
  simp only [mCall, mCons, mNil, mV, List.map_cons, List.map_nil, List.cons_append, List.getElem?_cons_zero, Res.bind_ok, moves_call e2, Okv_ok, gN_ok, List.set_cons_succ, List.set_cons_zero, List.nil_append, List.replicate]
  rw [OkS_then, OkS_asg]
  have hs := key_sort.sorted (x := tbD t2) (l := kys t2) (h := []) (tb_col t2 []) false
  have e4 : ∀ (a b : Option D), mLc false (mIt (mApp (sortKOp false F_value_key) (mCons (mV 1) mNil))) (gN 3) tYesM (mApp tupOp (mCons (mV 3) (mCons (mMet .dic getOp (mV 2) (mCons (mV 3) (mCons (mApp tupOp (mCons (mC (.str (Str.ofString "draw"))) mNil)) mNil))) mNil))) [3] [a, some (tbD t2), some (.dic ks), b] [] = .ok (.lst (rowsD (fin_ (adj ms) (kys t2)) (srt kyD (kys t2)))) [] := fun a b => by
    rw [mLc_map (e := keyD) (l := srt kyD (kys t2)) (f := fun p => some (.tup [keyD p, odD (fin_ (adj ms) (kys t2) p)])) (by simp [mIt, mApp, mCons, mNil, mV, value_key_eq, hs, mkL, itOp])]
    · rw [fm_all]
      rfl
    · intro p hp
      have hp' := (srt_mem kyD).mp hp
      have i1 : ∀ h, isTy .dic h (.dic ks) = true := fun h => by simp [isTy, kin]
      simp [lcF, bnd, wip, tYesM, mApp, mCons, mNil, mMet, mV, draw_e, fi_getd F.fi hp', i1]
      simp [mC, draw_e, drawD, i1] 
      have := fi_getd (h := []) F.fi hp'
      unfold drawD at this
      simp [this]
  simp [mCall, mCons, mNil, mV, settled_call F e3, mApp, e4, tupleOp, sqOf, lsOf, fin]
  have := (Pv.tup 2 _ (rows_pv (fin_ (adj ms) (kys t2)) (srt kyD (kys t2)) 0)).frz 0 []
  simp [this])
end
end G89
end

section
set_option Elab.async false
set_option linter.all false
set_option maxRecDepth 100000
set_option autoImplicit false
set_option maxHeartbeats 4000000
/-! W12: good moves. -/
namespace G89
open PySem PySem.Spec PyProof.Rows L2 TB
theorem wd_inj (a b : Bool) : (wd a == wd b) = decide (a = b) := by cases a <;> cases b <;> simp [wd, wd_ne, wd_ne.symm]
theorem eq_oc {o : Oc} {b : Bool} {i : Int} {h : Hh} : eqOp (ocD o) (.tup [.str (wd b), .int i]) h = .ok (.bl (decide (o.1 = b) && decide ((o.2 : Int) = i))) h := by
  have h1 : okD (rdD h (ocD o)) = true := (oc_pv o 0).ok (by decide)
  have h2 : okD (rdD h (.tup [.str (wd b), .int i])) = true := (oc_pv (b, 0) 0).ok (by decide)
  unfold eqOp
  rw [h1, h2]
  have := wd_inj o.1 b
  rw [eq_dec] at this
  simp only [rdD, ocD, eqv, eqvs, eq_dec, this]
  simp
theorem eq_non {b : Bool} {i : Int} {h : Hh} : eqOp .non (.tup [.str (wd b), .int i]) h = .ok (.bl false) h := by
  simp [eqOp, rdD, okD, TB.plain, plains, dep, deps, eqv]
theorem eq_draw {b : Bool} {i : Int} {h : Hh} : eqOp drawD (.tup [.str (wd b), .int i]) h = .ok (.bl false) h := by
  simp [eqOp, rdD, okD, TB.plain, plains, dep, deps, eqv, eqvs, drawD]
theorem wd_t : wd true = Str.ofString "win" := rfl
theorem wd_f : wd false = Str.ofString "lose" := by simp [wd]
def odW (x : Option Oc) : Str := match x with
  | some o => wd o.1
  | none => Str.ofString "draw"
theorem odW_none : odW none = Str.ofString "draw" := rfl
theorem odW_some {o : Oc} : odW (some o) = wd o.1 := rfl
theorem od_0 {x : Option Oc} {h : Hh} : ixOp (odD x) (.int 0) h = .ok (.str (odW x)) h := by
  cases x <;> simp [odD, odW, drawD, oc_0]
def goodB (f : Key → Option Oc) (p q : Key) : Bool := match f p, f q with
  | none, x => x.isNone
  | some (true, d), some (false, e) => decide ((e : Int) = (d : Int) - 1)
  | some (false, d), some (true, e) => decide ((e : Int) = (d : Int) - 1)
  | _, _ => false
section
variable {ms : List Mv} {t : Tb}
theorem fm_filter {l : List Key} {p : Key → Bool} : (l.filterMap fun q => if p q = true then some (keyD q) else none) = (l.filter p).map keyD := fm_if
theorem row_get (T : IsTb ms t) {p : Key} {qs : List Key} (m : (p, qs) ∈ t) {d : D} {h : Hh} : getOp (tbD t) [keyD p, d] h = .ok (.lst (qs.map keyD)) h := by
  have hv : valD (t.map fun e => (e.1, D.lst (e.2.map keyD))) p = some (.lst (qs.map keyD)) := valD_of (by rw [List.map_map]; exact T.nd) (List.mem_map.mpr ⟨_, m, rfl⟩)
  simp only [getOp, tbD, dcOf, keyOf_keyD, hv, Option.getD_some]
theorem good_moves_ok (hm : ms.length ≤ 12) {p : Key} (hp : Kp ms p) : ∃ qs : List Key, qs.Nodup ∧ (∀ q, q ∈ qs ↔ q ∈ adj ms p) ∧ (qs.Pairwise fun a b => leD (kyD a) (kyD b) = true) ∧
    ∀ t, IsTb ms t → F_good_moves [.lst (fcsD ms), keyD p] [] = .ok (.tup ((qs.filter (goodB (fin_ (adj ms) (kys t)) p)).map keyD)) [] := by
  obtain ⟨t2, T2, hl, srtd, e2⟩ := moves_of_ok ms (by omega)
  obtain ⟨ks, e3, F⟩ := settled_ok T2 (by omega)
  have hpk := (T2.ks p).mpr hp
  obtain ⟨qs, m, nd, hq, hsub, hix⟩ := T2.row hpk
  refine ⟨qs, nd, hq, srtd _ m, fun t T => ?_⟩
  rw [fin_same T T2]
  have hst := fin_step (adj ms) (kys t2) T2.cl hpk
  obtain ⟨f, hf⟩ : ∃ f, f = fin_ (adj ms) (kys t2) := ⟨_, rfl⟩
  rw [← hf] at F hst ⊢
  refine Okv.is ?_
  unfold F_good_moves
  refine callF_ok ?_
  unfold m_good_moves startD
  rw [OkS_then, OkS_asg]
  simp only [mCall, mCons, mNil, mV, List.map_cons, List.map_nil, List.cons_append, List.getElem?_cons_zero, Res.bind_ok, moves_call e2, Okv_ok, gN_ok, List.set_cons_succ, List.set_cons_zero, List.nil_append, List.replicate, List.length_cons, List.length_nil]
  rw [OkS_then, OkS_asg]
  simp only [mCall, mCons, mNil, mV, List.getElem?_cons_succ, List.getElem?_cons_zero, Res.bind_ok, settled_call F e3, Okv_ok, gN_ok, List.set_cons_succ, List.set_cons_zero]
  have i1 : ∀ h, isTy .dic h (.dic ks) = true := fun h => by simp [isTy, kin]
  have i2 : ∀ h, isTy .dic h (tbD t2) = true := fun h => by simp [isTy, kin, tbD]
  rw [OkS_then, OkS_asg]
  have em : ∀ s : Sl, s[1]? = some (some (keyD p)) → s[3]? = some (some (.dic ks)) → mMet .dic getOp (mV 3) (mCons (mV 1) (mCons (mApp tupOp (mCons (mC (.str (Str.ofString "draw"))) mNil)) mNil)) s [] = .ok (odD (f p)) [] := fun s h1 h3 => by
    have := draw_e (s := s) (h := [])
    unfold mMet
    simp only [mV, h3, Res.bind_ok, i1, if_true, mCons, h1, this, mNil, fi_getd F.fi hpk]
  rw [em _ rfl rfl, Okv_ok, gN_ok, Okv_ok]
  simp only [List.set_cons_succ, List.set_cons_zero]
  obtain ⟨s, hs⟩ : ∃ s : Sl, s = [some (.lst (fcsD ms)), some (keyD p), some (tbD t2), some (.dic ks), some (odD (f p)), none] := ⟨_, rfl⟩
  rw [← hs]
  have s1 : s[1]? = some (some (keyD p)) := by rw [hs]; rfl
  have s2 : s[2]? = some (some (tbD t2)) := by rw [hs]; rfl
  have s3 : s[3]? = some (some (.dic ks)) := by rw [hs]; rfl
  have s4 : s[4]? = some (some (odD (f p))) := by rw [hs]; rfl
  have sl : 5 < s.length := by rw [hs]; simp
  have w1 : ∀ {v : Option D} (i : Nat), i ≠ 5 → ((wip s [5]).set 5 v)[i]? = s[i]? := fun i hi => by
    rw [List.getElem?_set_ne (Ne.symm hi)]
    simp only [wip]
    rw [List.getElem?_set_ne (Ne.symm hi)]
  have w5 := fun v => wip_at (v := v) sl
  have it1 : (mIt (mMet .dic getOp (mV 2) (mCons (mV 1) (mCons (mApp (lstOp false) mNil) mNil)))) s [] = .ok (qs.map keyD, none) [] := by
    have : (mApp (lstOp false) mNil) s [] = .ok (.lst []) [] := by simp [mApp, mNil]
    unfold mIt mMet
    simp only [mV, s2, Res.bind_ok, i2, if_true, mCons, s1, this, mNil, row_get T2 m, itOp]
  have it2 : (mIt (m2 ixOp (mV 2) (mV 1))) s [] = .ok (qs.map keyD, none) [] := by
    simp [mIt, m2, mV, s1, s2, hix, itOp]
  have done : ∀ l : List Key, Okv (fin false ([] : Hh).length (.tup (l.map keyD)) []) (fun a h => a = .tup (l.map keyD) ∧ h = []) := fun l => by
    have := (Pv.tup 0 (l.map keyD) fun x hx => by
      obtain ⟨k, _, rfl⟩ := List.mem_map.mp hx
      exact key_pv k 0).frz 0 []
    simp [fin, this]
  have w1e : ∀ i, mB (m2 eqOp (m2 ixOp (mV 4) (mC (.int 0))) (mC (.str i))) s [] = .ok (odW (f p) == i) [] := fun i => by
    refine mB_ok ((m2_ok ((m2_ok (show mV 4 s [] = .ok (odD (f p)) [] by simp [mV, s4]) rfl).trans od_0) rfl).trans ?_)
    rw [TB.eq_str]
  have tup_ok : ∀ {e : EM} {xs : List D}, e s [] = .ok (.lst xs) [] → mApp tupleOp (mCons e mNil) s [] = .ok (.tup xs) [] := fun h => by
    simp [mApp, mCons, mNil, h]
  rw [OkS_then, OkS_if, w1e, Okv_ok]
  cases hfp : f p with
  | none =>
    have q1 : (Str.ofString "draw" == Str.ofString "lose") = false := by simpa using draw_lose
    have q2 : (Str.ofString "draw" == Str.ofString "win") = false := by simpa using draw_win
    simp only [odW_none, q1, Bool.false_eq_true, if_false, OkS_nil]
    rw [OkS_then, OkS_if, w1e, Okv_ok]
    simp only [hfp, odW_none, q2, Bool.false_eq_true, if_false, OkS_nil]
    rw [OkS_ret]
    have e5 := mLc_map (g := gN 5) (ft := mB (m2 (inOp true) (mV 5) (mV 3))) (fe := mV 5) (own := [5]) (f := fun q => if goodB f p q = true then some (keyD q) else none) it1 fun q hq => by
      have hin := fun h => fd_in F.fi (hsub q hq) (neg := true) (h := h)
      simp [lcF, bnd, mB, m2, mV, w5, w1, s3, hin]
      cases hfq : f q <;> simp [goodB, hfp, hfq]
    rw [fm_filter] at e5
    rw [tup_ok e5, Okv_ok]
    exact done _
  | some o =>
    obtain ⟨b, d⟩ := o
    have e41 : ∀ h, ixOp (odD (f p)) (.int 1) h = .ok (.int d) h := fun h => by rw [hfp]; simp [odD, oc_1]
    have e42 : ∀ h, ixOp (odD (some (b, d))) (.int 1) h = .ok (.int d) h := fun h => by simp [odD, oc_1]
    cases b with
    | false =>
      have hsl := stepv_l.mp (hst.trans hfp)
      simp only [odW_some, wd_f, beq_self_eq_true, if_true]
      rw [OkS_ret]
      have e5 := mLc_map (g := gN 5) (ft := mB (m2 eqOp (m2 ixOp (mV 3) (mV 5)) (mApp tupOp (mCons (mC (.str (Str.ofString "win"))) (mCons (m2 subOp (m2 ixOp (mV 4) (mC (.int 1))) (mC (.int 1))) mNil))))) (fe := mV 5) (own := [5]) (f := fun q => if goodB f p q = true then some (keyD q) else none) it1 fun q hq2 => by
        obtain ⟨e, he, _⟩ := hsl.1 q ((hq q).mp hq2)
        have hx := fun h => fd_ix F.fi (hsub q hq2) he (h := h)
        have heq := fun h => eq_oc (o := (true, e)) (b := true) (i := (d : Int) - 1) (h := h)
        simp only [wd_t] at heq
        simp [lcF, bnd, mB, m2, mV, mC, mApp, mCons, mNil, w5, w1, s3, s4, hx, e41, e42, heq]
        by_cases hd : (e : Int) = (d : Int) - 1 <;> simp [goodB, hfp, he, hd]
      rw [fm_filter] at e5
      rw [tup_ok e5, Okv_ok]
      exact done _
    | true =>
      have q1 : (Str.ofString "win" == Str.ofString "lose") = false := win_lose
      simp only [odW_some, wd_t, q1, Bool.false_eq_true, if_false, OkS_nil]
      rw [OkS_then, OkS_if, w1e, Okv_ok]
      simp only [hfp, odW_some, wd_t, beq_self_eq_true, if_true]
      rw [OkS_ret]
      have e5 := mLc_map (g := gN 5) (ft := mB (m2 eqOp (mMet .dic getOp (mV 3) (mCons (mV 5) mNil)) (mApp tupOp (mCons (mC (.str (Str.ofString "lose"))) (mCons (m2 subOp (m2 ixOp (mV 4) (mC (.int 1))) (mC (.int 1))) mNil))))) (fe := mV 5) (own := [5]) (f := fun q => if goodB f p q = true then some (keyD q) else none) it2 fun q hq2 => by
        have hx := fun h => fi_get1 F.fi (hsub q hq2) (h := h)
        cases hfq : f q with
        | none =>
          have heq := fun h => eq_non (b := false) (i := (d : Int) - 1) (h := h)
          simp only [wd_f] at heq
          simp [lcF, bnd, mB, m2, mV, mC, mApp, mCons, mNil, mMet, i1, w5, w1, s3, s4, hx, e41, e42, eD, hfq, heq, goodB, hfp]
        | some o =>
          have heq := fun h => eq_oc (o := o) (b := false) (i := (d : Int) - 1) (h := h)
          simp only [wd_f] at heq
          obtain ⟨b, e⟩ := o
          simp [lcF, bnd, mB, m2, mV, mC, mApp, mCons, mNil, mMet, i1, w5, w1, s3, s4, hx, e41, e42, eD, hfq, heq]
          cases b
          · by_cases hd : (e : Int) = (d : Int) - 1 <;> simp [goodB, hfp, hfq, hd]
          · simp [goodB, hfp, hfq]
      rw [fm_filter] at e5
      rw [tup_ok e5, Okv_ok]
      exact done _
end
end G89
end

section
set_option Elab.async false
set_option linter.all false
set_option maxRecDepth 100000
set_option autoImplicit false
set_option maxHeartbeats 4000000
/-! W13: _law_good, _law_worth. -/
namespace G89
open PySem PySem.Spec PyProof.Rows L2 TB
section
variable {ms : List Mv} {t : Tb}
theorem eq_od {x : Option Oc} {b : Bool} {i : Int} {h : Hh} : eqOp (odD x) (.tup [.str (wd b), .int i]) h = .ok (.bl (match x with
    | some o => decide (o.1 = b) && decide ((o.2 : Int) = i)
    | none => false)) h := by
  cases x with
  | none => exact eq_draw
  | some o => exact eq_oc
theorem filter_snoc {l : List Key} {p : Key → Bool} {q : Key} : (l ++ [q]).filter p = l.filter p ++ if p q = true then [q] else [] := by
  rw [List.filter_append]
  congr 1
  simp [List.filter_cons]
theorem law_good_ok (T : IsTb ms t) (hsz : t.length ≤ 500) {ks : List (Key × D)} {f : Key → Option Oc} (F : FD (kys t) ks f) {p : Key} (hp : p ∈ kys t) :
    ∃ qs : List Key, qs.Nodup ∧ (∀ q, q ∈ qs ↔ q ∈ adj ms p) ∧ F_law_good [tbD t, .dic ks, keyD p] [] = .ok (.tup (((srt kyD qs).filter (goodB f p)).map keyD)) [] := by
  obtain ⟨qs, m, nd, hq, hsub, hix⟩ := T.row hp
  have lz : (1000 : Nat) ≤ sizeLine := by decide
  have hql : qs.length ≤ 500 := by
    have := List.Nodup.length_le_of_subset nd hsub
    rw [List.length_map] at this
    omega
  refine ⟨qs, nd, hq, Okv.is ?_⟩
  unfold F_law_good
  refine callF_ok ?_
  unfold m_law_good startD
  have i1 : ∀ h, isTy .dic h (.dic ks) = true := fun h => by simp [isTy, kin]
  have em : ∀ (s : Sl) (i : Nat) (q : Key) (h : Hh), s[i]? = some (some (keyD q)) → s[1]? = some (some (.dic ks)) → q ∈ kys t → mMet .dic getOp (mV 1) (mCons (mV i) (mCons (mApp tupOp (mCons (mC (.str (Str.ofString "draw"))) mNil)) mNil)) s h = .ok (odD (f q)) h := fun s i q h h1 h3 hq => by
    have := draw_e (s := s) (h := h)
    unfold mMet
    simp only [mV, h3, Res.bind_ok, i1, if_true, mCons, h1, this, mNil, fi_getd F.fi hq]
  rw [OkS_then, OkS_asg, em _ 2 p _ rfl rfl hp, Okv_ok, gN_ok, Okv_ok, OkS_then, OkS_asg]
  have hl0 : ∀ s, mApp (lstOp true) mNil s [] = .ok (.ref 0) [Ob.lst []] := fun s => by simp [mApp, mNil, lstOp, mkL]
  obtain ⟨dp, hdp⟩ : ∃ dp, dp = odD (f p) := ⟨_, rfl⟩
  rw [← hdp]
  rw [hl0, Okv_ok, gN_ok, Okv_ok, OkS_then]
  simp only [List.map_cons, List.map_nil, List.cons_append, List.nil_append, List.length_cons, List.length_nil, List.replicate, List.set_cons_zero, List.set_cons_succ]
  have hs := fun h => key_sort.sorted (x := .lst (qs.map keyD)) (l := qs) (h := h) (show colOf _ _ = _ by simp [colOf, sqOf, lsOf]) false
  refine for_ok (xs := (srt kyD qs).map keyD) (h0 := [Ob.lst []]) (by simp [mIt, mApp, mCons, mNil, m2, mV, law_key_eq, hix, hs, mkL, itOp]) (fun i s h => ∃ o5 o6, s = [some (tbD t), some (.dic ks), some (keyD p), some dp, some (.ref 0), o5, o6] ∧ h = [Ob.lst ((((srt kyD qs).take i).filter (goodB f p)).map keyD)]) ⟨none, none, rfl, by simp⟩ ?_ ?_
  · rintro i x s h hx ⟨o5, o6, rfl, rfl⟩
    rw [List.getElem?_map] at hx
    obtain ⟨q, hq1, rfl⟩ := Option.map_eq_some_iff.mp hx
    have hqk := hsub q ((srt_mem kyD).mp (List.mem_of_getElem? hq1))
    have hlen : (((srt kyD qs).take i).filter (goodB f p)).length < sizeLine := by
      have h1 := List.length_filter_le (goodB f p) ((srt kyD qs).take i)
      have h2 : ((srt kyD qs).take i).length ≤ qs.length := by rw [List.length_take, srt_len]; omega
      omega
    rw [take_succ hq1, filter_snoc]
    simp only [gN_ok, Okv_ok, List.set_cons_zero, List.set_cons_succ]
    obtain ⟨hh, hhe⟩ : ∃ hh : Hh, hh = [Ob.lst ((((srt kyD qs).take i).filter (goodB f p)).map keyD)] := ⟨_, rfl⟩
    rw [← hhe]
    rw [OkS_then, OkS_asg, em _ 5 q _ rfl rfl hqk, Okv_ok, gN_ok, Okv_ok]
    simp only [List.set_cons_zero, List.set_cons_succ]
    obtain ⟨s, hs⟩ : ∃ s : Sl, s = [some (tbD t), some (.dic ks), some (keyD p), some dp, some (.ref 0), some (keyD q), some (odD (f q))] := ⟨_, rfl⟩
    rw [← hs]
    have s3 : s[3]? = some (some (odD (f p))) := by rw [hs, ← hdp]; rfl
    have s4 : s[4]? = some (some (.ref 0)) := by rw [hs]; rfl
    have s5 : s[5]? = some (some (keyD q)) := by rw [hs]; rfl
    have s6 : s[6]? = some (some (odD (f q))) := by rw [hs]; rfl
    have t1 : ∀ (j : Nat) (x : Option Oc) (w : Str), s[j]? = some (some (odD x)) → mB (m2 eqOp (m2 ixOp (mV j) (mC (.int 0))) (mC (.str w))) s hh = .ok (odW x == w) hh := fun j x w hj => by
      refine mB_ok ((m2_ok ((m2_ok (show mV j s hh = .ok (odD x) hh by simp [mV, hj]) rfl).trans od_0) rfl).trans ?_)
      rw [TB.eq_str]
    have t2 : ∀ (b c : Bool) (d : Nat), f p = some (c, d) → mB (m2 eqOp (mV 6) (mApp tupOp (mCons (mC (.str (wd b))) (mCons (m2 subOp (m2 ixOp (mV 3) (mC (.int 1))) (mC (.int 1))) mNil)))) s hh = .ok (match f q with
      | some o => decide (o.1 = b) && decide ((o.2 : Int) = (d : Int) - 1)
      | none => false) hh := fun b c d hd => by
      have e1 : m2 subOp (m2 ixOp (mV 3) (mC (.int 1))) (mC (.int 1)) s hh = .ok (.int ((d : Int) - 1)) hh := by
        simp [m2, mV, mC, s3, hd, odD, oc_1]
      have e2 : mApp tupOp (mCons (mC (.str (wd b))) (mCons (m2 subOp (m2 ixOp (mV 3) (mC (.int 1))) (mC (.int 1))) mNil)) s hh = .ok (.tup [.str (wd b), .int ((d : Int) - 1)]) hh := by
        simp [mApp, mCons, mNil, mC, e1]
      exact mB_ok ((m2_ok (show mV 6 s hh = .ok (odD (f q)) hh by simp [mV, s6]) e2).trans eq_od)
    have yes : ∀ {R : D → Hh → Prop} {B : Sl → Hh → Prop}, goodB f p q = true → OkS (sExp (mMet .lst appendOp (mV 4) (mCons (mV 5) mNil)) s hh) (fun s h => ∃ o5 o6, s = [some (tbD t), some (.dic ks), some (keyD p), some dp, some (.ref 0), o5, o6] ∧ h = [Ob.lst ((((srt kyD qs).take i).filter (goodB f p) ++ if goodB f p q = true then [q] else []).map keyD)]) R B (fun s h => ∃ o5 o6, s = [some (tbD t), some (.dic ks), some (keyD p), some dp, some (.ref 0), o5, o6] ∧ h = [Ob.lst ((((srt kyD qs).take i).filter (goodB f p) ++ if goodB f p q = true then [q] else []).map keyD)]) := fun {R B} hg => by
      rw [OkS_exp]
      have il : isTy .lst hh (.ref 0) = true := by rw [hhe]; simp [isTy, kin]
      have ha : appendOp (.ref 0) [keyD q] hh = .ok .non [Ob.lst ((((srt kyD qs).take i).filter (goodB f p)).map keyD ++ [keyD q])] := by
        rw [hhe]
        simp [appendOp, cellL, hlen]
      unfold mMet
      simp only [mV, s4, s5, Res.bind_ok, il, if_true, mCons, mNil, ha, Okv_ok]
      exact ⟨_, _, hs, by rw [if_pos hg]; simp⟩
    have no : goodB f p q = false → ∃ o5 o6, s = [some (tbD t), some (.dic ks), some (keyD p), some dp, some (.ref 0), o5, o6] ∧ hh = [Ob.lst ((((srt kyD qs).take i).filter (goodB f p) ++ if goodB f p q = true then [q] else []).map keyD)] := fun hg => ⟨_, _, hs, by rw [hg, hhe]; simp⟩
    have dl : (Str.ofString "draw" == Str.ofString "lose") = false := by simpa using draw_lose
    have dw : (Str.ofString "draw" == Str.ofString "win") = false := by simpa using draw_win
    have ld : (Str.ofString "lose" == Str.ofString "draw") = false := by simpa using draw_lose.symm
    have wdr : (Str.ofString "win" == Str.ofString "draw") = false := by simpa using draw_win.symm
    have T3 := fun w => t1 3 (f p) w s3
    have T6 := fun w => t1 6 (f q) w s6
    simp only [OkS_if]
    rw [and_ok (T3 (Str.ofString "draw"))]
    cases hfp : f p with
    | none =>
      simp only [odW_none, beq_self_eq_true, if_true, T6, Okv_ok]
      cases hfq : f q with
      | none =>
        simp only [odW_none, beq_self_eq_true, if_true]
        exact yes (by simp [goodB, hfp, hfq])
      | some o =>
        obtain ⟨b, e⟩ := o
        have w0 : (wd b == Str.ofString "draw") = false := by cases b <;> simp [wd, draw_win.symm, draw_lose.symm]
        simp only [odW_some, odW_none, w0, Bool.false_eq_true, if_false, and_ok (T3 (Str.ofString "win")), and_ok (T3 (Str.ofString "lose")), hfp, dl, dw, Okv_ok, OkS_nil]
        exact no (by simp [goodB, hfp, hfq])
    | some o =>
      obtain ⟨c, d⟩ := o
      have w0 : (wd c == Str.ofString "draw") = false := by cases c <;> simp [wd, draw_win.symm, draw_lose.symm]
      have T2 := fun b => t2 b c d hfp
      have T2l := T2 false
      have T2w := T2 true
      rw [wd_f] at T2l
      rw [wd_t] at T2w
      simp only [odW_some, w0, Bool.false_eq_true, if_false, Okv_ok, and_ok (T3 (Str.ofString "win")), and_ok (T3 (Str.ofString "lose")), hfp]
      cases c with
      | true =>
        simp only [and_ok (T3 (Str.ofString "lose")), hfp, odW_some, wd_t, beq_self_eq_true, if_true, T2l, Okv_ok, win_lose, Bool.false_eq_true, if_false, OkS_nil]
        by_cases hg : goodB f p q = true
        · rw [if_pos]
          · exact yes hg
          · unfold goodB at hg
            rw [hfp] at hg
            split at hg <;> simp_all
        · rw [if_neg]
          · exact no (by simpa using hg)
          · unfold goodB at hg
            rw [hfp] at hg
            cases hfq : f q with
            | none => simp
            | some o => obtain ⟨b, e⟩ := o; cases b <;> simp_all
      | false =>
        simp only [and_ok (T3 (Str.ofString "lose")), hfp, odW_some, wd_f, beq_self_eq_true, if_true, T2w, Okv_ok, lose_win, Bool.false_eq_true, if_false, OkS_nil]
        by_cases hg : goodB f p q = true
        · rw [if_pos]
          · exact yes hg
          · unfold goodB at hg
            rw [hfp] at hg
            split at hg <;> simp_all
        · rw [if_neg]
          · exact no (by simpa using hg)
          · unfold goodB at hg
            rw [hfp] at hg
            cases hfq : f q with
            | none => simp
            | some o => obtain ⟨b, e⟩ := o; cases b <;> simp_all
  · rintro s h ⟨o5, o6, rfl, rfl⟩
    rw [List.length_map, List.take_length]
    have := (Pv.tup 0 (((srt kyD qs).filter (goodB f p)).map keyD) fun x hx => by
      obtain ⟨k, _, rfl⟩ := List.mem_map.mp hx
      exact key_pv k 0).frz 0 [Ob.lst (((srt kyD qs).filter (goodB f p)).map keyD)]
    simp [mApp, mCons, mNil, mV, tupleOp, sqOf, lsOf, fin, this]
theorem law_good_call (T : IsTb ms t) (hsz : t.length ≤ 500) {ks : List (Key × D)} {f : Key → Option Oc} (F : FD (kys t) ks f) {p : Key} (hp : p ∈ kys t) : ∃ qs : List Key, qs.Nodup ∧ (∀ q, q ∈ qs ↔ q ∈ adj ms p) ∧ ∀ h, callOp F_law_good [tbD t, .dic ks, keyD p] h = .ok (.tup (((srt kyD qs).filter (goodB f p)).map keyD)) h := by
  obtain ⟨qs, q1, q2, e⟩ := law_good_ok T hsz F hp
  refine ⟨qs, q1, q2, fun h => call_low (fun d hd => ?_) e ((Pv.tup 0 _ fun x hx => ?_).low 0) fun n z => by cases z⟩
  · simp at hd
    rcases hd with rfl | rfl | rfl
    · exact ⟨tb_low t, fun n z => by cases z⟩
    · exact ⟨F.low, fun n z => by cases z⟩
    · exact ⟨(key_pv p 0).low 0, (key_pv p 0).nref⟩
  · obtain ⟨k, _, rfl⟩ := List.mem_map.mp hx
    exact key_pv k 0
/-! ### _law_worth -/
theorem law_worth_ok (T : IsTb ms t) (hsz : t.length ≤ 500) : ∀ (k left : Nat) (p : Key), left < k → p ∈ kys t → F_law_worth k [tbD t, keyD p, .int left] [] = .ok (eD (val (adj ms) (left + 1)) p) []
  | 0, left, p, hl, _ => absurd hl (Nat.not_lt_zero _)
  | k + 1, left, p, hl, hp => by
    obtain ⟨qs, m, nd, hq, hsub, hix⟩ := T.row hp
    have ih := fun (l : Nat) (q : Key) (h1 : l < k) (h2 : q ∈ kys t) => law_worth_ok T hsz k l q h1 h2
    have ihc : ∀ (l : Nat) (q : Key) (h : Hh), l < k → q ∈ kys t → callOp (F_law_worth k) [tbD t, keyD q, .int l] h = .ok (eD (val (adj ms) (l + 1)) q) h := fun l q h h1 h2 =>
      call_low (fun d hd => by
        simp at hd
        rcases hd with rfl | rfl | rfl
        · exact ⟨tb_low t, fun n z => by cases z⟩
        · exact ⟨(key_pv q 0).low 0, (key_pv q 0).nref⟩
        · exact ⟨rfl, fun n z => by cases z⟩) (ih l q h1 h2) ((eD_pv _ q 0).low 0) (eD_pv _ q 0).nref
    have hv := T.vc hq (val (adj ms) left)
    show callF false (m_law_worth (F_law_worth k)) 7 [tbD t, keyD p, .int left] [] = _
    refine Okv.is ?_
    refine callF_ok ?_
    unfold m_law_worth startD
    have ends : (mLc false (mIt (m2 ixOp (mV 0) (mV 1))) (gN 5) tYesM (mIf (mB (m2 gtOp (mV 2) (mC (.int 0)))) (mCall (F_law_worth k) (mCons (mV 0) (mCons (mV 5) (mCons (m2 subOp (mV 2) (mC (.int 1))) mNil)))) (mC .non)) [5]) [some (tbD t), some (keyD p), some (.int left), none, none, none, none] [] = .ok (.lst (qs.map (eD (val (adj ms) left)))) [] := by
      rw [mLc_map (e := keyD) (l := qs) (f := fun q => some (eD (val (adj ms) left) q)) (by simp [mIt, m2, mV, hix, itOp])]
      · rw [fm_all]
      · intro q hq2
        cases left with
        | zero =>
          simp [lcF, bnd, wip, tYesM, mIf, mB, m2, mV, mC, eD, val]
        | succ l =>
          obtain ⟨L, hL⟩ : ∃ L : Int, L = ((l + 1 : Nat) : Int) := ⟨_, rfl⟩
          rw [← hL]
          have e1 : L - 1 = (l : Nat) := by omega
          have e2 : (0 : Int) < L := by omega
          have c := fun h => ihc l q h (by omega) (hsub q hq2)
          have t0 : (mB (m2 gtOp (mV 2) (mC (.int 0)))) [some (tbD t), some (keyD p), some (.int L), none, none, some (keyD q), none] [] = .ok true [] := by
            refine mB_ok ((m2_ok (show mV 2 _ _ = .ok (.int L) [] by simp [mV]) rfl).trans ?_)
            rw [TB.gt_int, decide_eq_true e2]
          have t1 : (m2 subOp (mV 2) (mC (.int 1))) [some (tbD t), some (keyD p), some (.int L), none, none, some (keyD q), none] [] = .ok (.int (l : Nat)) [] := by
            refine (m2_ok (show mV 2 _ _ = .ok (.int L) [] by simp [mV]) rfl).trans ?_
            rw [TB.sub_int, e1]
          simp [lcF, bnd, wip, tYesM, mIf, t0, mCall, mCons, mNil, mV, t1, c]
    rw [OkS_then, OkS_asg]
    simp only [List.map_cons, List.map_nil, List.cons_append, List.nil_append, List.length_cons, List.length_nil, List.replicate]
    rw [ends, Okv_ok, gN_ok, Okv_ok, OkS_then, OkS_asg]
    simp only [List.set_cons_zero, List.set_cons_succ]
    rw [lost_lc (f := val (adj ms) left) (qs := qs) (by rfl) (by simp), Okv_ok, gN_ok, Okv_ok]
    simp only [List.set_cons_zero, List.set_cons_succ]
    rw [OkS_then, OkS_if]
    obtain ⟨f, hf⟩ : ∃ f, f = val (adj ms) left := ⟨_, rfl⟩
    have hval : eD (val (adj ms) (left + 1)) p = match stepv f (adj ms p) with
      | some o => ocD o
      | none => .non := by
      unfold eD
      rw [hf]
      rfl
    rw [hval]
    rw [← hf] at hv ⊢
    obtain ⟨s, hs⟩ : ∃ s : Sl, s = [some (tbD t), some (keyD p), some (.int left), some (.lst (qs.map (eD f))), some (.lst ((lostOf f qs).map fun d => D.int (d : Nat))), none, none] := ⟨_, rfl⟩
    rw [← hs]
    have s3 : s[3]? = some (some (.lst (qs.map (eD f)))) := by rw [hs]; rfl
    have s4 : s[4]? = some (some (.lst ((lostOf f qs).map fun d => D.int (d : Nat)))) := by rw [hs]; rfl
    have sl : 6 < s.length := by rw [hs]; simp
    have tl : mB (m2 gtOp (mApp lenOp (mCons (mV 4) mNil)) (mC (.int 0))) s [] = .ok (decide (0 < (lostOf f qs).length)) [] := by
      simp [mB, m2, mApp, mCons, mNil, mV, mC, s4]
    rw [tl, Okv_ok]
    have done : ∀ o : Oc, Okv (fin false ([] : Hh).length (ocD o) []) (fun a h => a = ocD o ∧ h = []) := fun o => by
      have := (oc_pv o 0).frz 0 []
      simp [fin, this]
    cases hm : (lostOf f qs).min? with
    | some d =>
      have hv2 : stepv f qs = some (true, d + 1) := by unfold stepv; rw [hm]
      have : 0 < (lostOf f qs).length := by
        cases hq : lostOf f qs with
        | nil => rw [hq] at hm; simp at hm
        | cons a b => simp
      rw [if_pos (by simpa using this), OkS_ret, eWin_ok s4 hm, Okv_ok, ← hv, hv2]
      exact done _
    | none =>
      have : lostOf f qs = [] := List.min?_eq_none_iff.mp hm
      rw [this, if_neg (by simp), OkS_nil, OkS_then, OkS_if]
      obtain ⟨xs, x1, x2⟩ := nowin_lc (h := []) s3 sl
      have tw : mB (m2 gtOp (mApp lenOp (mCons (mLc false (mIt (mV 3)) (gN 6) (mOr (mB (m2 (isOp false) (mV 6) (mC .non))) (mB (m2 neOp (m2 ixOp (mV 6) (mC (.int 0))) (mC (.str (Str.ofString "win")))))) (mV 6) [6]) mNil)) (mC (.int 0))) s [] = .ok (decide (0 < xs.length)) [] := by
        refine mB_ok ((m2_ok (x := .int (xs.length : Nat)) (h1 := []) ?_ rfl).trans ?_)
        · simp [mApp, mCons, mNil, x1]
        · rw [TB.gt_int]
          congr 2
          rw [Bool.eq_iff_iff]
          simp
      rw [tw, Okv_ok]
      by_cases hw : wonAll f qs = true
      · obtain ⟨d, hv2, ed⟩ := eLose_ex (h := []) s3 sl hm hw
        have := x2.mpr hw
        rw [if_neg (by rw [this]; simp), OkS_nil, OkS_ret, ed, Okv_ok, ← hv, hv2]
        exact done _
      · have hv2 : stepv f qs = none := by unfold stepv; rw [hm]; simp only; rw [if_neg hw]
        have : ¬ xs.length = 0 := fun z => hw (x2.mp z)
        rw [if_pos (by rw [decide_eq_true_eq]; omega), OkS_ret, ← hv, hv2]
        simp [mC, fin, frzD]
theorem law_worth_call (T : IsTb ms t) (hsz : t.length ≤ 500) {k left : Nat} {p : Key} (hl : left < k) (hp : p ∈ kys t) (h : Hh) : callOp (F_law_worth k) [tbD t, keyD p, .int left] h = .ok (eD (val (adj ms) (left + 1)) p) h :=
  call_low (fun d hd => by
    simp at hd
    rcases hd with rfl | rfl | rfl
    · exact ⟨tb_low t, fun n z => by cases z⟩
    · exact ⟨(key_pv p 0).low 0, (key_pv p 0).nref⟩
    · exact ⟨rfl, fun n z => by cases z⟩) (law_worth_ok T hsz k left p hl hp) ((eD_pv _ p 0).low 0) (eD_pv _ p 0).nref
end
end G89
end

section
set_option Elab.async false
set_option linter.all false
set_option maxRecDepth 100000
set_option autoImplicit false
set_option maxHeartbeats 4000000
/-! W14: is_end, place_right. -/
namespace G89
open PySem PySem.Spec PyProof.Rows L2 TB
def parse (x : D) : Option (Option Oc) := match x with
  | .tup [.str a] => if a = Str.ofString "draw" then some none else none
  | .tup [.str a, .int i] => if 0 ≤ i then (if a = wd true then some (some (true, i.toNat)) else if a = wd false then some (some (false, i.toNat)) else none) else none
  | _ => none
theorem wd_tf : wd true ≠ wd false := by simpa [wd] using wd_ne
theorem parse_iff {x : D} {y : Option Oc} : parse x = some y ↔ x = odD y := by
  constructor
  · intro h
    unfold parse at h
    split at h
    · split at h
      · rename_i e; cases h; rw [e]; rfl
      · cases h
    · rename_i a i
      split at h
      · rename_i hi
        split at h
        · rename_i e; cases h; rw [e]
          simp only [odD, ocD]
          rw [show ((i.toNat : Nat) : Int) = i by omega]
        · split at h
          · rename_i e; cases h; rw [e]
            simp only [odD, ocD]
            rw [show ((i.toNat : Nat) : Int) = i by omega]
          · cases h
      · cases h
    · cases h
  · rintro rfl
    cases y with
    | none => simp [odD, drawD, parse]
    | some o =>
      obtain ⟨b, d⟩ := o
      cases b
      · simp [odD, ocD, parse, wd_tf.symm]
      · simp [odD, ocD, parse]
def isE (b : Bool) (x : D) : Bool := match x with
  | .tup [.str a, .int i] => (a == wd b) && decide (0 ≤ i)
  | _ => false
theorem isE_iff {b : Bool} {x : D} : isE b x = true ↔ ∃ d, parse x = some (some (b, d)) := by
  constructor
  · intro h
    unfold isE at h
    split at h
    · rename_i a i
      simp only [Bool.and_eq_true, beq_iff_eq, decide_eq_true_eq] at h
      refine ⟨i.toNat, parse_iff.mpr ?_⟩
      simp only [odD, ocD]
      rw [h.1, show ((i.toNat : Nat) : Int) = i by omega]
    · cases h
  · rintro ⟨d, h⟩
    rw [parse_iff.mp h]
    simp [odD, ocD, isE]
theorem bl_frz (b : Bool) {h : Hh} (hl : h.all (obLow h.length) = true) : fin false h.length (.bl b) h = .ok (.bl b) h := by
  simp [fin, frzD]
  simpa using hl
theorem is_end_ok {k : Nat} {x : D} (p : Pv k x) (hk : k ≤ 50) (b : Bool) : F_is_end [.str (wd b), x] [] = .ok (.bl (isE b x)) [] := Okv.is (by
  unfold F_is_end
  refine callF_ok ?_
  unfold m_is_end
  obtain ⟨s, hs⟩ : ∃ s : Sl, s = startD 2 [.str (wd b), x] := ⟨_, rfl⟩
  rw [← hs]
  have s0 : s[0]? = some (some (.str (wd b))) := by rw [hs]; rfl
  have s1 : s[1]? = some (some x) := by rw [hs]; rfl
  have fz : ∀ c, Okv (fin false ([] : Hh).length (.bl c) []) (fun a h => a = .bl (isE b x) ∧ h = []) ↔ c = isE b x := fun c => by simp [fin, frzD]
  have t1 := tIsi_ok (h := []) s1 p (n := "tuple") (c := .tup) rfl
  have n1 : mNot (tIsi 1 "tuple") s [] = .ok (!isT (kd x) .tup) [] := by
    unfold mNot
    rw [t1]
    simp
  rw [OkS_then, OkS_if]
  by_cases ht : isT (kd x) .tup = true
  · have ⟨xs, hx⟩ : ∃ xs, x = .tup xs := by cases p <;> simp [kd, isT] at ht <;> exact ⟨_, rfl⟩
    subst hx
    obtain ⟨j, hj, px⟩ : ∃ j, j ≤ 50 ∧ ∀ y, y ∈ xs → Pv j y := by
      cases p with
      | tup k xs h => exact ⟨k, by omega, h⟩
    have q2 : mB (m2 neOp (mApp lenOp (mCons (mV 1) mNil)) (mC (.int 2))) s [] = .ok (!decide (xs.length = 2)) [] := by
      refine mB_ok ((m2_ok (x := .int (xs.length : Nat)) (h1 := []) (by simp [mApp, mCons, mNil, mV, s1]) rfl).trans ?_)
      rw [TB.ne_int]
      congr 2
      rw [Bool.eq_iff_iff]
      simp
      omega
    have or3 : ∀ {f g : TM} {a : Bool}, f s [] = .ok a [] → mOr f g s [] = if a = true then .ok true [] else g s [] := fun {f g a} hf => by cases a <;> simp [mOr, hf]
    rw [or3 n1, ht, or3 q2]
    simp only [Bool.not_true, Bool.false_eq_true, if_false]
    by_cases hl : xs.length = 2
    · match xs, hl, px with
      | [a, c], _, px =>
        have pa := px a (by simp)
        have pc := px c (by simp)
        have e0 : m2 ixOp (mV 1) (mC (.int 0)) s [] = .ok a [] := (m2_ok (show mV 1 s [] = .ok (.tup [a, c]) [] by simp [mV, s1]) rfl).trans (by simp)
        have e1 : m2 ixOp (mV 1) (mC (.int 1)) s [] = .ok c [] := (m2_ok (show mV 1 s [] = .ok (.tup [a, c]) [] by simp [mV, s1]) rfl).trans (by simp)
        have q3 : mB (m2 neOp (m2 ixOp (mV 1) (mC (.int 0))) (mV 0)) s [] = .ok (!eqv a (.str (wd b))) [] := by
          refine mB_ok ((m2_ok e0 (show mV 0 s [] = .ok (.str (wd b)) [] by simp [mV, s0])).trans ?_)
          have o1 : okD (rdD [] a) = true := by
            have : rdD [] a = a := by cases pa <;> rfl
            rw [this]
            exact pa.ok (by omega)
          unfold neOp
          have : rdD ([] : Hh) a = a := by cases pa <;> rfl
          rw [o1, this]
          simp [rdD, okD, TB.plain, dep]
        simp only [List.length_cons, List.length_nil, decide_true, Bool.not_true, Bool.false_eq_true, if_false, q3, Okv_ok]
        by_cases ha : eqv a (.str (wd b)) = true
        · have ⟨z, hz⟩ : ∃ z, a = .str z := by cases pa <;> simp [eqv] at ha <;> exact ⟨_, rfl⟩
          subst hz
          have hz : z = wd b := by simpa [eqv] using ha
          subst hz
          simp only [ha, Bool.not_true, Bool.false_eq_true, if_false, OkS_nil]
          rw [OkS_ret]
          have i1 : ∀ n c', tyOf7 n = some c' → mApp isiOp (mCons (m2 ixOp (mV 1) (mC (.int 1))) (mCons (mC (.ty n)) mNil)) s [] = .ok (.bl (isT (kd c) c')) [] := fun n c' hc => by
            simp [mApp, mCons, mNil, mC, e1, isi_of pc [] hc]
          have i2 : mNotV (mApp isiOp (mCons (m2 ixOp (mV 1) (mC (.int 1))) (mCons (mC (.ty "bool")) mNil))) s [] = .ok (.bl (!isT (kd c) .bl)) [] := by
            unfold mNotV
            rw [i1 "bool" .bl rfl]
            simp
          rw [andE_ok (i1 "int" .int rfl), andE_ok i2]
          cases pc with
          | int _ i =>
            simp only [kd, isT]
            simp
            rw [(m2_ok e1 rfl)]
            simp [fin, frzD, isE]
          | bl _ _ => simp [kd, isT, fin, frzD, isE]
          | non _ => simp [kd, isT, fin, frzD, isE]
          | str _ _ => simp [kd, isT, fin, frzD, isE]
          | tup _ _ _ => simp [kd, isT, fin, frzD, isE]
          | lst _ _ _ => simp [kd, isT, fin, frzD, isE]
        · have : isE b (.tup [a, c]) = false := by
            rw [Bool.eq_false_iff]
            intro z
            unfold isE at z
            split at z
            · rename_i a' i he
              cases he
              simp only [Bool.and_eq_true, beq_iff_eq] at z
              exact ha (by simp [eqv, z.1])
            · cases z
          have ha' : eqv a (.str (wd b)) = false := by simpa using ha
          simp only [ha', Bool.not_false, if_true, OkS_ret, mC, Okv_ok]
          exact (fz _).mpr this.symm
    · have : isE b (.tup xs) = false := by
        rw [Bool.eq_false_iff]
        intro z
        unfold isE at z
        split at z
        · rename_i a' i he
          cases he
          exact hl rfl
        · cases z
      simp only [hl, decide_false, Bool.not_false, if_true, Okv_ok, OkS_ret, mC]
      exact (fz _).mpr this.symm
  · have : isE b x = false := by
      cases p <;> simp [kd, isT] at ht <;> rfl
    have or3 : ∀ {f g : TM} {a : Bool}, f s [] = .ok a [] → mOr f g s [] = if a = true then .ok true [] else g s [] := fun {f g a} hf => by cases a <;> simp [mOr, hf]
    have ht' : isT (kd x) .tup = false := by simpa using ht
    rw [or3 n1, ht']
    simp only [Bool.not_false, if_true, Okv_ok, OkS_ret, mC]
    exact (fz _).mpr this.symm)
theorem is_end_call {k : Nat} {x : D} (p : Pv k x) (hk : k ≤ 50) (b : Bool) (h : Hh) : callOp F_is_end [.str (wd b), x] h = .ok (.bl (isE b x)) h :=
  call_pv (fun y hy => by
    simp at hy
    rcases hy with rfl | rfl
    · exact ⟨0, .str _ _⟩
    · exact ⟨_, p⟩) (is_end_ok p hk b) (.bl 0 _)
end G89
end

section
set_option Elab.async false
set_option linter.all false
set_option maxRecDepth 100000
set_option autoImplicit false
set_option maxHeartbeats 4000000
/-! W15: place_right. -/
namespace G89
open PySem PySem.Spec PyProof.Rows L2 TB
@[simp] theorem any_bll (bs : List Bool) (h : Hh) : anyOp [.lst (bll bs)] h = .ok (.bl (bs.any id)) h := by
  simp [anyOp, lsBols, lsOf, bols_bll]
theorem eqv_draw {k : Nat} {x : D} (p : Pv k x) : eqv x drawD = true ↔ parse x = some none := by
  rw [parse_iff]
  simp only [odD, drawD]
  cases p with
  | tup k xs h =>
    match xs, h with
    | [], _ => simp [eqv, eqvs]
    | [a], h =>
      have pa := h a (by simp)
      cases pa <;> simp [eqv, eqvs]
    | _ :: _ :: _, _ => simp [eqv, eqvs]
  | _ => simp [eqv]
theorem rd_pv {k : Nat} {x : D} (p : Pv k x) (h : Hh) : rdD h x = x := by cases p <;> rfl
theorem draw_pv (k : Nat) : Pv (k + 1) drawD := od_pv none k
theorem eq_drawB {k : Nat} {x : D} (p : Pv k x) (hk : k ≤ 50) (h : Hh) : eqOp x drawD h = .ok (.bl (eqv x drawD)) h := by
  unfold eqOp
  rw [rd_pv p, rd_pv (draw_pv 0), p.ok (by omega), (draw_pv 0).ok (by decide)]
  rfl
theorem okDs_pv {k : Nat} {xs : List D} (p : ∀ x, x ∈ xs → Pv k x) (hk : k ≤ 50) : okDs xs = true := by
  have h1 : plains xs = true := plains_of fun x hx => (p x hx).plain
  have h2 : deps xs ≤ k := deps_of fun x hx => (p x hx).dep
  simp [okDs, h1]
  omega
section
variable {w : Key → D} {ss : List Key} {k : Nat} {s : Sl} {h : Hh}
theorem ends_it2 {i : Nat} (he : s[i]? = some (some (.lst (ss.map w)))) : (mIt (mV i)) s h = .ok (ss.map w, none) h := by simp [mIt, mV, he, itOp]
theorem isE_lc (hw : ∀ q, q ∈ ss → Pv k (w q)) (hk : k ≤ 50) (he : s[2]? = some (some (.lst (ss.map w)))) (hx : 4 < s.length) (b : Bool) :
    mLc false (mIt (mV 2)) (gN 4) tYesM (mCall F_is_end (mCons (mC (.str (wd b))) (mCons (mV 4) mNil))) [4] s h = .ok (.lst (bll (ss.map fun q => isE b (w q)))) h := by
  rw [mLc_map (e := w) (l := ss) (f := fun q => some (.bl (isE b (w q)))) (ends_it2 he)]
  · rw [fm_all]
    simp [bll, List.map_map, Function.comp_def]
  · intro q hq
    have wv := fun v => wip_at (v := v) hx
    simp [lcF, bnd, tYesM, mCall, mCons, mNil, mV, mC, wv, is_end_call (hw q hq) hk b]
theorem fj {x : D} {b : Bool} {d : Nat} : (parse x).join = some (b, d) ↔ x = ocD (b, d) := by
  rw [join_iff, parse_iff]
  rfl
theorem lostE_lc (hw : ∀ q, q ∈ ss → Pv k (w q)) (hk : k ≤ 50) (he : s[2]? = some (some (.lst (ss.map w)))) (hx : 4 < s.length) :
    mLc false (mIt (mV 2)) (gN 4) (mTru (mCall F_is_end (mCons (mC (.str (wd false))) (mCons (mV 4) mNil)))) (m2 ixOp (mV 4) (mC (.int 1))) [4] s h = .ok (.lst ((lostOf (fun q => (parse (w q)).join) ss).map fun d => D.int (d : Nat))) h := by
  rw [mLc_map (e := w) (l := ss) (f := fun q => match (parse (w q)).join with
    | some (false, d) => some (D.int (d : Nat))
    | _ => none) (ends_it2 he)]
  · congr 2
    unfold lostOf
    rw [List.map_filterMap]
    congr 1
    funext q
    dsimp only
    generalize (parse (w q)).join = z
    rcases z with _ | ⟨b, d⟩
    · rfl
    · cases b <;> rfl
  · intro q hq
    have wv := fun v => wip_at (v := v) hx
    cases hj : (parse (w q)).join with
    | some o =>
      obtain ⟨b, d⟩ := o
      have e := fj.mp hj
      have ie : isE false (w q) = !b := by rw [e]; cases b <;> simp [isE, ocD, wd_tf]
      cases b <;> simp [lcF, bnd, mTru, mCall, mCons, mNil, mV, mC, m2, wv, is_end_call (hw q hq) hk false, ie] 
      rw [e]
      simp [oc_1]
    | none =>
      have ie : isE false (w q) = false := by
        rw [Bool.eq_false_iff]
        intro z
        obtain ⟨d, hd⟩ := isE_iff.mp z
        rw [hd] at hj
        cases hj
      simp [lcF, bnd, mTru, mCall, mCons, mNil, mV, mC, m2, wv, is_end_call (hw q hq) hk false, ie]
theorem wonE_lc (he : s[2]? = some (some (.lst (ss.map w)))) (hx : 4 < s.length) (ha : wonAll (fun q => (parse (w q)).join) ss = true) :
    mLc false (mIt (mV 2)) (gN 4) tYesM (m2 ixOp (mV 4) (mC (.int 1))) [4] s h = .ok (.lst ((wonOf (fun q => (parse (w q)).join) ss).map fun d => D.int (d : Nat))) h := by
  rw [mLc_map (e := w) (l := ss) (f := fun q => ((parse (w q)).join).map fun o => D.int (o.2 : Nat)) (ends_it2 he)]
  · congr 2
    unfold wonOf
    rw [List.map_filterMap]
    congr 1
    funext q
    dsimp only
    generalize (parse (w q)).join = z
    cases z <;> rfl
  · intro q hq
    have wv := fun v => wip_at (v := v) hx
    obtain ⟨e, hj⟩ := wonAll_iff.mp ha q hq
    have hj : (parse (w q)).join = some (true, e) := hj
    rw [hj]
    have e2 := fj.mp hj
    simp [lcF, bnd, tYesM, m2, mV, mC, wv]
    rw [e2]
    simp [oc_1]
theorem any_isE {b : Bool} : (ss.map fun q => isE b (w q)).any id = true ↔ ∃ q, q ∈ ss ∧ ∃ d, parse (w q) = some (some (b, d)) := by
  rw [List.any_eq_true]
  constructor
  · rintro ⟨x, hx, hx2⟩
    obtain ⟨q, hq, rfl⟩ := List.mem_map.mp hx
    exact ⟨q, hq, isE_iff.mp hx2⟩
  · rintro ⟨q, hq, h⟩
    exact ⟨_, List.mem_map.mpr ⟨q, hq, rfl⟩, isE_iff.mpr h⟩
theorem all_isE : (ss.map fun q => isE true (w q)).all id = true ↔ ∀ q, q ∈ ss → ∃ d, parse (w q) = some (some (true, d)) := by
  rw [List.all_eq_true]
  constructor
  · intro h q hq
    exact isE_iff.mp (h _ (List.mem_map.mpr ⟨q, hq, rfl⟩))
  · intro h x hx
    obtain ⟨q, hq, rfl⟩ := List.mem_map.mp hx
    exact isE_iff.mpr (h q hq)
theorem in_draw (hw : ∀ q, q ∈ ss → Pv k (w q)) (hk : k ≤ 50) : inOp false drawD (.lst (ss.map w)) h = .ok (.bl ((ss.map w).any fun z => eqv z drawD)) h := by
  have h2 : okDs (ss.map w) = true := okDs_pv (k := k) (fun x hx => by
    obtain ⟨q, hq, rfl⟩ := List.mem_map.mp hx
    exact hw q hq) hk
  simp only [inOp, sqOf, lsOf, (draw_pv 0).ok (k := 1) (by decide), h2]
  simp
theorem notV_ok {e : EM} {b : Bool} (he : e s h = .ok (.bl b) h) : mNotV e s h = .ok (.bl (!b)) h := by
  unfold mNotV
  rw [he]
  simp
theorem mTru_ok {e : EM} {b : Bool} (he : e s h = .ok (.bl b) h) : mTru e s h = .ok b h := by
  unfold mTru
  rw [he]
  simp
theorem mNot_ok {e : TM} {b : Bool} (he : e s h = .ok b h) : mNot e s h = .ok (!b) h := by
  unfold mNot
  rw [he]
  simp
theorem or_ok2 {f g : TM} {a : Bool} (hf : f s h = .ok a h) : mOr f g s h = if a = true then .ok true h else g s h := by cases a <;> simp [mOr, hf]
theorem place_right_ok (hw : ∀ q, q ∈ ss → Pv k (w q)) (hk : k ≤ 40) {x : D} (px : Pv k x) {o : Ob} (ho : obLow 1 o = true) :
    ∃ B, F_place_right [.ref 0, x, .lst (ss.map w)] [o] = .ok (.bl B) [o] ∧ (B = true ↔ Okp (fun q => parse (w q)) ss (parse x)) := by
  have : Okv (F_place_right [.ref 0, x, .lst (ss.map w)] [o]) fun v h => ∃ B, v = .bl B ∧ h = [o] ∧ (B = true ↔ Okp (fun q => parse (w q)) ss (parse x)) := by
    unfold F_place_right
    refine callF_ok ?_
    unfold m_place_right
    obtain ⟨s, hs⟩ : ∃ s : Sl, s = startD 5 [.ref 0, x, .lst (ss.map w)] := ⟨_, rfl⟩
    rw [← hs]
    have s1 : s[1]? = some (some x) := by rw [hs]; rfl
    have s2 : s[2]? = some (some (.lst (ss.map w))) := by rw [hs]; rfl
    have sl : 4 < s.length := by rw [hs]; simp [startD]
    have fz : ∀ B, (B = true ↔ Okp (fun q => parse (w q)) ss (parse x)) → Okv (fin false [o].length (.bl B) [o]) (fun v h => ∃ B, v = .bl B ∧ h = [o] ∧ (B = true ↔ Okp (fun q => parse (w q)) ss (parse x))) := fun B hB => by
      have e : fin false [o].length (.bl B) [o] = .ok (.bl B) [o] := by simp [fin, frzD, ho]
      rw [e, Okv_ok]
      exact ⟨B, rfl, rfl, hB⟩
    have call1 : ∀ b, mCall F_is_end (mCons (mC (.str (wd b))) (mCons (mV 1) mNil)) s [o] = .ok (.bl (isE b x)) [o] := fun b => by
      simp [mCall, mCons, mNil, mV, mC, s1, is_end_call px (by omega) b]
    have x1 : ∀ b d, x = ocD (b, d) → m2 ixOp (mV 1) (mC (.int 1)) s [o] = .ok (.int (d : Nat)) [o] := fun b d e =>
      (m2_ok (show mV 1 s [o] = .ok x [o] by simp [mV, s1]) rfl).trans (by rw [e, oc_1])
    have t0 : mB (m2 eqOp (mV 1) (mApp tupOp (mCons (mC (.str (Str.ofString "draw"))) mNil))) s [o] = .ok (eqv x drawD) [o] :=
      mB_ok ((m2_ok (show mV 1 s [o] = .ok x [o] by simp [mV, s1]) draw_e).trans (eq_drawB px (by omega) _))
    rw [OkS_then, OkS_if, t0, Okv_ok]
    have eW : ∀ {b}, isE b x = true → ∃ d, x = ocD (b, d) ∧ parse x = some (some (b, d)) := fun {b} h => by
      obtain ⟨d, hd⟩ := isE_iff.mp h
      exact ⟨d, parse_iff.mp hd, hd⟩
    by_cases hd : eqv x drawD = true
    · have pd := (eqv_draw px).mp hd
      rw [if_pos hd, OkS_ret]
      have e1 : m2 (inOp false) (mApp tupOp (mCons (mC (.str (Str.ofString "draw"))) mNil)) (mV 2) s [o] = .ok (.bl ((ss.map w).any fun z => eqv z drawD)) [o] :=
        (m2_ok draw_e (show mV 2 s [o] = .ok (.lst (ss.map w)) [o] by simp [mV, s2])).trans (in_draw hw (by omega))
      have e2 : mApp anyOp (mCons (mLc false (mIt (mV 2)) (gN 4) tYesM (mCall F_is_end (mCons (mC (.str (Str.ofString "lose"))) (mCons (mV 4) mNil))) [4]) mNil) s [o] = .ok (.bl ((ss.map fun q => isE false (w q)).any id)) [o] := by
        have := isE_lc (h := [o]) hw (by omega) s2 sl false
        rw [wd_f] at this
        simp [mApp, mCons, mNil, this]
      rw [andE_ok e1]
      have i1 : ((ss.map w).any fun z => eqv z drawD) = true ↔ ∃ q, q ∈ ss ∧ parse (w q) = some none := by
        rw [List.any_eq_true]
        constructor
        · rintro ⟨z, hz, h2⟩
          obtain ⟨q, hq, rfl⟩ := List.mem_map.mp hz
          exact ⟨q, hq, (eqv_draw (hw q hq)).mp h2⟩
        · rintro ⟨q, hq, h2⟩
          exact ⟨_, List.mem_map.mpr ⟨q, hq, rfl⟩, (eqv_draw (hw q hq)).mpr h2⟩
      have i2 := any_isE (w := w) (ss := ss) (b := false)
      rw [pd] at fz ⊢
      by_cases h1 : ((ss.map w).any fun z => eqv z drawD) = true
      · rw [if_pos h1, notV_ok e2, Okv_ok]
        refine fz _ ?_
        simp only [Okp]
        constructor
        · intro h2
          refine ⟨i1.mp h1, fun q hq e he => ?_⟩
          have := i2.mpr ⟨q, hq, e, he⟩
          rw [this] at h2
          cases h2
        · rintro ⟨_, h2⟩
          cases h3 : (ss.map fun q => isE false (w q)).any id with
          | false => rfl
          | true =>
            obtain ⟨q, hq, e, he⟩ := i2.mp h3
            exact absurd he (h2 q hq e)
      · rw [if_neg h1, Okv_ok]
        refine fz false ?_
        simp only [Okp]
        constructor
        · intro z; cases z
        · rintro ⟨z, _⟩
          exact absurd (i1.mpr z) h1
    · rw [if_neg hd, OkS_nil, OkS_then, OkS_if]
      have npd : parse x ≠ some none := fun z => hd ((eqv_draw px).mpr z)
      have c1 := call1 true
      have c2 := call1 false
      rw [wd_t] at c1
      rw [wd_f] at c2
      rw [mTru_ok c1, Okv_ok]
      by_cases hwin : isE true x = true
      · obtain ⟨d, xe, pe⟩ := eW hwin
        rw [if_pos hwin, OkS_then, OkS_asg]
        have e1 := lostE_lc (h := [o]) hw (by omega) s2 sl
        rw [wd_f] at e1
        rw [e1, Okv_ok, gN_ok, Okv_ok, OkS_ret]
        obtain ⟨s', hs'⟩ : ∃ s' : Sl, s' = s.set 3 (some (.lst ((lostOf (fun q => (parse (w q)).join) ss).map fun d => D.int (d : Nat)))) := ⟨_, rfl⟩
        rw [← hs']
        have s3 : s'[3]? = some (some (.lst ((lostOf (fun q => (parse (w q)).join) ss).map fun d => D.int (d : Nat)))) := by rw [hs', List.getElem?_set_self (by omega)]
        have s1' : s'[1]? = some (some x) := by rw [hs', List.getElem?_set_ne (by decide)]; exact s1
        have l1 : m2 gtOp (mApp lenOp (mCons (mV 3) mNil)) (mC (.int 0)) s' [o] = .ok (.bl (decide (0 < (lostOf (fun q => (parse (w q)).join) ss).length))) [o] := by
          simp [m2, mApp, mCons, mNil, mV, mC, s3]
        rw [andE_ok l1]
        rw [pe] at fz ⊢
        cases hm : (lostOf (fun q => (parse (w q)).join) ss).min? with
        | none =>
          have : lostOf (fun q => (parse (w q)).join) ss = [] := List.min?_eq_none_iff.mp hm
          rw [this, if_neg (by simp), Okv_ok]
          refine fz false ?_
          simp only [Okp]
          rw [← stepv_w]
          unfold stepv
          rw [hm]
          simp
        | some m =>
          have : 0 < (lostOf (fun q => (parse (w q)).join) ss).length := by
            cases hq : lostOf (fun q => (parse (w q)).join) ss with
            | nil => rw [hq] at hm; simp at hm
            | cons a b => simp
          rw [if_pos (by simpa using this)]
          have e2 : m2 ixOp (mV 1) (mC (.int 1)) s' [o] = .ok (.int (d : Nat)) [o] := (m2_ok (show mV 1 s' [o] = .ok x [o] by simp [mV, s1']) rfl).trans (by rw [xe, oc_1])
          have e3 : m2 (addOp false) (mC (.int 1)) (mApp min1Op (mCons (mV 3) mNil)) s' [o] = .ok (.int (1 + (m : Int))) [o] := by
            simp [m2, mApp, mCons, mNil, mV, mC, s3, min_ok hm]
          rw [(m2_ok e2 e3), TB.eq_int, Okv_ok]
          refine fz _ ?_
          simp only [Okp]
          rw [← stepv_w]
          unfold stepv
          rw [hm]
          simp
          omega
      · rw [if_neg hwin, OkS_nil, OkS_then, OkS_if]
        have e1 : mApp allOp (mCons (mLc false (mIt (mV 2)) (gN 4) tYesM (mCall F_is_end (mCons (mC (.str (Str.ofString "win"))) (mCons (mV 4) mNil))) [4]) mNil) s [o] = .ok (.bl ((ss.map fun q => isE true (w q)).all id)) [o] := by
          have := isE_lc (h := [o]) hw (by omega) s2 sl true
          rw [wd_t] at this
          simp [mApp, mCons, mNil, this]
        rw [or_ok2 (mNot_ok (mTru_ok c2)), mNot_ok (mTru_ok e1)]
        by_cases hlo : isE false x = true
        · obtain ⟨d, xe, pe⟩ := eW hlo
          rw [pe] at fz ⊢
          rw [hlo, if_neg (by simp), Okv_ok]
          by_cases hall : ((ss.map fun q => isE true (w q)).all id) = true
          · have ha := all_isE.mp hall
            have hwa : wonAll (fun q => (parse (w q)).join) ss = true := wonAll_iff.mpr fun q hq => (ha q hq).imp fun e he => join_iff.mpr he
            rw [hall, if_neg (by simp), OkS_nil, OkS_ret]
            have e2 := x1 false d xe
            have e4 := wonE_lc (h := [o]) s2 sl hwa
            have hlost : (lostOf (fun q => (parse (w q)).join) ss).min? = none := by
              rw [List.min?_eq_none_iff]
              cases e : lostOf (fun q => (parse (w q)).join) ss with
              | nil => rfl
              | cons d r =>
                obtain ⟨q, q1, q2⟩ := lost_mem.mp (show d ∈ lostOf (fun q => (parse (w q)).join) ss by rw [e]; exact List.mem_cons_self)
                obtain ⟨e, he⟩ := wonAll_iff.mp hwa q q1
                rw [q2] at he; cases he
            have hst : ∀ c, (stepv (fun q => (parse (w q)).join) ss = some (false, c)) ↔ StepL (fun q => (parse (w q)).join) ss c := fun c => stepv_l
            cases hm : (wonOf (fun q => (parse (w q)).join) ss).max? with
            | none =>
              have hq : ss = [] := by
                cases hqs : ss with
                | nil => rfl
                | cons q r =>
                  obtain ⟨e, he⟩ := wonAll_iff.mp hwa q (by rw [hqs]; exact List.mem_cons_self)
                  have := (won_mem (f := fun q => (parse (w q)).join)).mpr ⟨q, (show q ∈ ss by rw [hqs]; exact List.mem_cons_self), true, he⟩
                  rw [List.max?_eq_none_iff.mp hm] at this
                  cases this
              have e3 : mIf (mB (m2 gtOp (mApp lenOp (mCons (mV 2) mNil)) (mC (.int 0)))) (m2 (addOp false) (mC (.int 1)) (mApp max1Op (mCons (mLc false (mIt (mV 2)) (gN 4) tYesM (m2 ixOp (mV 4) (mC (.int 1))) [4]) mNil))) (mC (.int 0)) s [o] = .ok (.int 0) [o] := by
                simp [mIf, mB, m2, mApp, mCons, mNil, mV, mC, s2, hq]
              rw [(m2_ok e2 e3), TB.eq_int, Okv_ok]
              refine fz _ ?_
              simp only [Okp]
              rw [← hst]
              unfold stepv
              rw [hlost]
              simp only
              rw [if_pos hwa, hm]
              simp
              constructor
              · intro h; exact ⟨fun q hq => ha q hq, h.symm⟩
              · intro h; exact h.2.symm
            | some m =>
              have hq : 0 < ss.length := by
                cases hqs : ss with
                | nil => rw [hqs] at hm; simp [wonOf] at hm
                | cons q r => simp
              have e3 : mIf (mB (m2 gtOp (mApp lenOp (mCons (mV 2) mNil)) (mC (.int 0)))) (m2 (addOp false) (mC (.int 1)) (mApp max1Op (mCons (mLc false (mIt (mV 2)) (gN 4) tYesM (m2 ixOp (mV 4) (mC (.int 1))) [4]) mNil))) (mC (.int 0)) s [o] = .ok (.int (1 + (m : Int))) [o] := by
                simp [mIf, mB, m2, mApp, mCons, mNil, mV, mC, s2, hq, e4, max_ok hm]
              rw [(m2_ok e2 e3), TB.eq_int, Okv_ok]
              refine fz _ ?_
              simp only [Okp]
              rw [← hst]
              unfold stepv
              rw [hlost]
              simp only
              rw [if_pos hwa, hm]
              simp
              constructor
              · intro h; exact ⟨fun q hq => ha q hq, by omega⟩
              · intro h; omega
          · have hall' : ((ss.map fun q => isE true (w q)).all id) = false := by simpa using hall
            rw [hall', if_pos (by simp), OkS_ret]
            simp only [mC, Okv_ok]
            refine fz false ?_
            simp only [Okp]
            constructor
            · intro z; cases z
            · rintro ⟨z, _⟩
              exact absurd (all_isE.mpr z) hall
        · have hlo' : isE false x = false := by simpa using hlo
          rw [hlo', if_pos (by simp), Okv_ok, if_pos rfl, OkS_ret]
          simp only [mC, Okv_ok]
          have : parse x = none := by
            cases hp : parse x with
            | none => rfl
            | some y =>
              cases y with
              | none => exact absurd hp npd
              | some o =>
                obtain ⟨b, d⟩ := o
                cases b
                · exact absurd (isE_iff.mpr ⟨d, hp⟩) hlo
                · exact absurd (isE_iff.mpr ⟨d, hp⟩) hwin
          rw [this] at fz ⊢
          exact fz false (by simp [Okp])
  obtain ⟨v, h, e, B, rfl, rfl, hB⟩ := this
  exact ⟨B, e, hB⟩
end
end G89
end

section
set_option Elab.async false
set_option linter.all false
set_option maxRecDepth 100000
set_option autoImplicit false
set_option maxHeartbeats 4000000
/-! W16: outcomes_right. -/
namespace G89
open PySem PySem.Spec PyProof.Rows L2 TB
theorem call_ob {F : FM} {ds : List D} {o : Ob} {rest : Hh} {v : D} (h1 : refsOf ds = []) (h2 : argLow ds = true) (h3 : renD 1 ds = ds) (ho : obLow 0 o = true) (e : F (.ref 0 :: ds) [o] = .ok v [o]) (hv : low 0 v = true) (hn : ∀ n, v ≠ .ref n) : callOp F (.ref 0 :: ds) (o :: rest) = .ok v (o :: rest) := by
  have e1 : outC (rest.length + 1) 1 v (o :: rest) = .ok v (o :: rest) := by
    unfold outC
    cases v <;> first | exact absurd rfl (hn _) | simp [hv]
  simp [callOp, refsOf, argLow, getC, renD, h1, h2, h3, e, ho, putC, e1]
theorem tup_key_eqv : Eqv (fun l : List Key => D.tup (l.map keyD)) := ⟨fun a b => by simp [eqv, key_eqv.evs], fun a => .tup _ _ fun x hx => by
  obtain ⟨y, _, rfl⟩ := List.mem_map.mp hx
  exact key_pv _ _⟩
def rowE (e : Key × D) : D := .tup [keyD e.1, e.2]
theorem row_pv {k : Nat} {e : Key × D} (h : Pv k e.2) : Pv (k + 1) (rowE e) := .tup _ _ fun x hx => by
  simp at hx
  rcases hx with rfl | rfl
  · exact key_pv _ _
  · exact h
theorem pairs_rowE : ∀ l : List (Key × D), pairsD (l.map rowE) = some l
  | [] => rfl
  | e :: l => by
    obtain ⟨k, d⟩ := e
    have ih := pairs_rowE l
    simp only [List.map_cons, rowE] at ih ⊢
    unfold pairsD
    rw [keyOf_keyD]
    have ih2 : pairsD (l.map fun e => D.tup [keyD e.1, e.2]) = some l := ih
    first | rw [ih2] | (show (match some k, pairsD (l.map rowE) with | some k, some ks => some ((k, d) :: ks) | x, x_1 => none) = _; rw [pairs_rowE l])
theorem Okp_congr {G : Key → Option (Option Oc)} {ss tt : List Key} (h : ∀ q, q ∈ ss ↔ q ∈ tt) (x : Option (Option Oc)) : Okp G ss x ↔ Okp G tt x := by
  rcases x with _ | _ | ⟨b, d⟩
  · rfl
  · simp only [Okp, h]
  · cases b
    · simp only [Okp, StepL, h]
    · simp only [Okp, StepW, h]
section
variable {ms : List Mv} {t : Tb}
theorem not_tup_ok (hm : ms.length ≤ 12) {x : D} {k : Nat} (p : Pv k x) (hx : isT (kd x) .tup = false) : F_outcomes_right [.lst (fcsD ms), x] [] = .ok (.bl false) [] := Okv.is (by
  obtain ⟨t2, T2, hl, _, e2⟩ := moves_of_ok ms (by omega)
  unfold F_outcomes_right
  refine callF_ok ?_
  unfold m_outcomes_right
  obtain ⟨s, hs⟩ : ∃ s : Sl, s = startD 7 [.lst (fcsD ms), x] := ⟨_, rfl⟩
  rw [← hs]
  have s0 : s[0]? = some (some (.lst (fcsD ms))) := by rw [hs]; rfl
  have e1 : mCall F_moves_of (mCons (mV 0) mNil) s [] = .ok (tbD t2) [] := by simp [mCall, mCons, mNil, mV, s0, moves_call e2]
  rw [OkS_then, OkS_asg, e1, Okv_ok, gN_ok, Okv_ok, OkS_then, OkS_if]
  have s1 : (s.set 2 (some (tbD t2)))[1]? = some (some x) := by rw [List.getElem?_set_ne (by decide), hs]; rfl
  have t1 := tIsi_ok (h := []) s1 p (n := "tuple") (c := .tup) rfl
  rw [or_ok2 (mNot_ok t1), hx]
  simp [mC, fin, frzD])
theorem right_ok (T : IsTb ms t) (hm : ms.length ≤ 12) {l : List (Key × D)} {k : Nat} (hk : k ≤ 30) (hp : ∀ e, e ∈ l → Pv k e.2) :
    ∃ B, F_outcomes_right [.lst (fcsD ms), .tup (l.map rowE)] [] = .ok (.bl B) [] ∧ (B = true ↔ l = (srt kyD (kys t)).map fun p => (p, odD (fin_ (adj ms) (kys t) p))) := by
  obtain ⟨t2, T2, hl, _, e2⟩ := moves_of_ok ms (by omega)
  rw [fin_same T T2, key_sort.perm (kys_perm T T2)]
  have : Okv (F_outcomes_right [.lst (fcsD ms), .tup (l.map rowE)] []) fun v h => ∃ B, v = .bl B ∧ h = [] ∧ (B = true ↔ l = (srt kyD (kys t2)).map fun p => (p, odD (fin_ (adj ms) (kys t2) p))) := by
    unfold F_outcomes_right
    refine callF_ok ?_
    unfold m_outcomes_right
    obtain ⟨s, hs⟩ : ∃ s : Sl, s = startD 7 [.lst (fcsD ms), .tup (l.map rowE)] := ⟨_, rfl⟩
    rw [← hs]
    have s0 : s[0]? = some (some (.lst (fcsD ms))) := by rw [hs]; rfl
    have e1 : mCall F_moves_of (mCons (mV 0) mNil) s [] = .ok (tbD t2) [] := by simp [mCall, mCons, mNil, mV, s0, moves_call e2]
    rw [OkS_then, OkS_asg, e1, Okv_ok, gN_ok, Okv_ok, OkS_then, OkS_if]
    obtain ⟨s', hs'⟩ : ∃ s' : Sl, s' = s.set 2 (some (tbD t2)) := ⟨_, rfl⟩
    rw [← hs']
    have s1 : s'[1]? = some (some (.tup (l.map rowE))) := by rw [hs', List.getElem?_set_ne (by decide), hs]; rfl
    have s2 : s'[2]? = some (some (tbD t2)) := by rw [hs', List.getElem?_set_self (by rw [hs]; simp [startD])]
    have sl : s'.length = 7 := by rw [hs', hs]; simp [startD]
    have prow : ∀ x, x ∈ l.map rowE → Pv (k + 1) x := fun x hx => by
      obtain ⟨e, he, rfl⟩ := List.mem_map.mp hx
      exact row_pv (hp e he)
    have fz : ∀ {B h}, (B = true ↔ l = (srt kyD (kys t2)).map fun p => (p, odD (fin_ (adj ms) (kys t2) p))) → Okv (fin false ([] : Hh).length (.bl B) h) (fun v h => ∃ B, v = .bl B ∧ h = [] ∧ (B = true ↔ l = (srt kyD (kys t2)).map fun p => (p, odD (fin_ (adj ms) (kys t2) p)))) := fun {B h} hB => by
      have e : fin false ([] : Hh).length (.bl B) h = .ok (.bl B) [] := by simp [fin, frzD]
      rw [e, Okv_ok]
      exact ⟨B, rfl, rfl, hB⟩
    have t1 := tIsi_ok (h := []) s1 (Pv.tup (k + 1) _ prow) (n := "tuple") (c := .tup) rfl
    have it1 : (mIt (mV 1)) s' [] = .ok (l.map rowE, none) [] := by simp [mIt, mV, s1, itOp]
    have w5 := fun v => wip_at (s := s') (i := 5) (v := v) (by omega)
    have a1 : mLc false (mIt (mV 1)) (gN 5) tYesM (mAndV (mApp isiOp (mCons (mV 5) (mCons (mC (.ty "tuple")) mNil))) (m2 eqOp (mApp lenOp (mCons (mV 5) mNil)) (mC (.int 2)))) [5] s' [] = .ok (.lst (bll (l.map fun _ => true))) [] := by
      rw [mLc_map (e := rowE) (l := l) (f := fun _ => some (.bl true)) it1]
      · rw [fm_all]
        simp [bll, List.map_map, Function.comp_def]
      · intro e he
        simp [lcF, bnd, tYesM, mAndV, m2, mApp, mCons, mNil, mV, mC, w5, rowE, isiOp, kin, tyOf7, isT]
    have a2 : mApp allOp (mCons (mLc false (mIt (mV 1)) (gN 5) tYesM (mAndV (mApp isiOp (mCons (mV 5) (mCons (mC (.ty "tuple")) mNil))) (m2 eqOp (mApp lenOp (mCons (mV 5) mNil)) (mC (.int 2)))) [5]) mNil) s' [] = .ok (.bl true) [] := by
      have : (l.map fun _ => true).all id = true := by
        rw [List.all_eq_true]
        intro x hx
        obtain ⟨_, _, rfl⟩ := List.mem_map.mp hx
        rfl
      simp only [mApp, mCons, mNil, a1, Res.bind_ok, all_bll, this]
    rw [or_ok2 (mNot_ok t1), mNot_ok (mTru_ok a2)]
    simp only [kd, isT, decide_true, Bool.true_or, Bool.not_true, Bool.false_eq_true, if_false, Okv_ok, OkS_nil]
    rw [OkS_then, OkS_if]
    have a3 : mLc false (mIt (mV 1)) (gN 5) tYesM (m2 ixOp (mV 5) (mC (.int 0))) [5] s' [] = .ok (.lst ((l.map (·.1)).map keyD)) [] := by
      rw [mLc_map (e := rowE) (l := l) (f := fun e => some (keyD e.1)) it1]
      · rw [fm_all, List.map_map]
        rfl
      · intro e he
        simp [lcF, bnd, tYesM, m2, mV, mC, w5, rowE]
    have hsrt := key_sort.sorted (x := tbD t2) (l := kys t2) (h := []) (tb_col t2 []) false
    have a4 : mB (m2 neOp (mApp tupleOp (mCons (mLc false (mIt (mV 1)) (gN 5) tYesM (m2 ixOp (mV 5) (mC (.int 0))) [5]) mNil)) (mApp tupleOp (mCons (mApp (sortKOp false F_value_key) (mCons (mV 2) mNil)) mNil))) s' [] = .ok (!decide (l.map (·.1) = srt kyD (kys t2))) [] := by
      refine mB_ok ((m2_ok (x := .tup ((l.map (·.1)).map keyD)) (h1 := []) ?_ (y := .tup ((srt kyD (kys t2)).map keyD)) (h2 := []) ?_).trans (tup_key_eqv.ne _ _ _))
      · simp only [mApp, mCons, mNil, a3, Res.bind_ok, tuple_lst]
      · simp only [mApp, mCons, mNil, mV, s2, Res.bind_ok, value_key_eq, hsrt, mkL, Bool.false_eq_true, if_false, tuple_lst]
    rw [a4, Okv_ok]
    have ndS : (srt kyD (kys t2)).Nodup := (srt_nodup kyD).mpr T2.nd
    by_cases hk2 : l.map (·.1) = srt kyD (kys t2)
    · rw [decide_eq_true hk2]
      simp only [Bool.not_true, Bool.false_eq_true, if_false, OkS_nil]
      rw [OkS_then, OkS_asg]
      have ndl : (l.map (·.1)).Nodup := by rw [hk2]; exact ndS
      have e3 : mApp dictOp (mCons (mV 1) mNil) s' [] = .ok (.ref 0) [Ob.dic (mergeD [] l)] := by
        have : pairsD (l.map rowE) = some l := pairs_rowE l
        simp [mApp, mCons, mNil, mV, s1, dictOp, dcOf, sqOf, this, mkC]
      rw [e3, Okv_ok, gN_ok, Okv_ok, OkS_ret]
      obtain ⟨o, ho⟩ : ∃ o, o = Ob.dic (mergeD [] l) := ⟨_, rfl⟩
      rw [← ho]
      obtain ⟨w, hw⟩ : ∃ w : Key → D, w = fun p => (valD l p).getD .non := ⟨_, rfl⟩
      have wv : ∀ p, p ∈ kys t2 → valD (mergeD [] l) p = some (w p) ∧ (p, w p) ∈ l := fun p hp => by
        have h1 : p ∈ l.map (·.1) := by rw [hk2]; exact (srt_mem kyD).mpr hp
        rw [valD_merge ndl]
        cases hv : valD l p with
        | some v => rw [hw]; simp only [hv, Option.getD_some]; exact ⟨trivial, valD_mem hv⟩
        | none => exact absurd h1 (valD_none.mp hv)
      have pvw : ∀ p, p ∈ kys t2 → Pv k (w p) := fun p hq => hp _ (wv p hq).2
      have ol : ∀ j, obLow j o = true := fun j => by
        rw [ho]
        simp only [obLow, lowk_eq]
        refine lows_of fun x hx => ?_
        obtain ⟨e, he, rfl⟩ := List.mem_map.mp hx
        rcases merge_pair he with h | h
        · cases h
        · exact (hp e h).low j
      obtain ⟨z, hz⟩ : ∃ z : Sl, z = s'.set 3 (some (.ref 0)) := ⟨_, rfl⟩
      rw [← hz]
      have z2 : z[2]? = some (some (tbD t2)) := by rw [hz, List.getElem?_set_ne (by decide)]; exact s2
      have z3 : z[3]? = some (some (.ref 0)) := by rw [hz, List.getElem?_set_self (by omega)]
      have zl : z.length = 7 := by rw [hz]; simpa using sl
      have ixw : ∀ p, p ∈ kys t2 → ixOp (.ref 0) (keyD p) [o] = .ok (w p) [o] := fun p hp => by
        have hk := keyOf_keyD p
        have := (wv p hp).1
        rw [ho]
        cases p <;> simp only [keyD] at hk ⊢ <;> simp [ixOp, sqOf, lsOf, dcOf, hk, this]
      have B : ∀ p, p ∈ kys t2 → ∃ b, (∀ y : Sl, y[2]? = some (some (tbD t2)) → y[3]? = some (some (.ref 0)) → y[4]? = some (some (keyD p)) → y.length = 7 → (mCall F_place_right (mCons (mV 3) (mCons (m2 ixOp (mV 3) (mV 4)) (mCons (mLc false (mIt (m2 ixOp (mV 2) (mV 4))) (gN 6) tYesM (m2 ixOp (mV 3) (mV 6)) [6]) mNil)))) y [o] = .ok (.bl b) [o]) ∧ (b = true ↔ Okp (fun q => parse (w q)) (adj ms p) (parse (w p))) := fun p hp => by
        obtain ⟨qs, m, nd, hq, hsub, hix⟩ := T2.row hp
        obtain ⟨b, hb, ib⟩ := place_right_ok (w := w) (ss := qs) (k := k) (fun q h => pvw q (hsub q h)) (by omega) (pvw p hp) (ol 1)
        refine ⟨b, fun y y2 y3 y4 yl => ?_, ib.trans (Okp_congr hq _)⟩
        have y6 := fun v => wip_at (s := y) (i := 6) (v := v) (by omega)
        have y36 : ∀ v : Option D, ((wip y [6]).set 6 v)[3]? = some (some (.ref 0)) := fun v => by
          rw [List.getElem?_set_ne (by decide)]
          simp only [wip]
          rw [List.getElem?_set_ne (by decide)]
          exact y3
        have el : mLc false (mIt (m2 ixOp (mV 2) (mV 4))) (gN 6) tYesM (m2 ixOp (mV 3) (mV 6)) [6] y [o] = .ok (.lst (qs.map w)) [o] := by
          rw [mLc_map (e := keyD) (l := qs) (f := fun q => some (w q)) (by simp [mIt, m2, mV, y2, y4, hix, itOp])]
          · rw [fm_all]
          · intro q hq
            simp [lcF, bnd, tYesM, m2, mV, y6, y36, ixw q (hsub q hq)]
        have ci : callOp F_place_right [.ref 0, w p, .lst (qs.map w)] [o] = .ok (.bl b) [o] := by
          have pl : Pv (k + 1) (.lst (qs.map w)) := .lst _ _ fun x hx => by
            obtain ⟨q, hq, rfl⟩ := List.mem_map.mp hx
            exact pvw q (hsub q hq)
          obtain ⟨h1, h2, h3⟩ := pv_refs (ds := [w p, .lst (qs.map w)]) fun d hd => by
            simp at hd
            rcases hd with rfl | rfl
            · exact ⟨_, pvw p hp⟩
            · exact ⟨_, pl⟩
          exact call_ob (rest := []) h1 h2 (h3 1) (ol 0) hb rfl fun n z => by cases z
        have t3 : m2 ixOp (mV 3) (mV 4) y [o] = .ok (w p) [o] := (m2_ok (mV_ok y3) (mV_ok y4)).trans (ixw p hp)
        exact (mCall_ok (mCons_ok (mV_ok y3) (mCons_ok t3 (mCons_ok el rfl)))).trans ci
      obtain ⟨bo, bs⟩ : ∃ bo : Key → Bool, ∀ p (h : p ∈ kys t2), bo p = Classical.choose (B p h) := ⟨fun p => @dite _ (p ∈ kys t2) (Classical.propDecidable _) (fun h => Classical.choose (B p h)) (fun _ => true), fun p h => dif_pos h⟩
      have a5 : mLc false (mIt (mV 2)) (gN 4) tYesM (mCall F_place_right (mCons (mV 3) (mCons (m2 ixOp (mV 3) (mV 4)) (mCons (mLc false (mIt (m2 ixOp (mV 2) (mV 4))) (gN 6) tYesM (m2 ixOp (mV 3) (mV 6)) [6]) mNil)))) [4] z [o] = .ok (.lst (bll ((kys t2).map bo))) [o] := by
        rw [mLc_map (e := keyD) (l := kys t2) (f := fun p => some (.bl (bo p))) (by simp only [mIt, mV, z2, Res.bind_ok, tb_it])]
        · rw [fm_all]
          simp [bll, List.map_map, Function.comp_def]
        · intro p hp
          have h1 := (Classical.choose_spec (B p hp)).1 ((wip z [4]).set 4 (some (keyD p)))
            (by rw [List.getElem?_set_ne (by decide)]; simp only [wip]; rw [List.getElem?_set_ne (by decide)]; exact z2)
            (by rw [List.getElem?_set_ne (by decide)]; simp only [wip]; rw [List.getElem?_set_ne (by decide)]; exact z3)
            (wip_at (by omega)) (by rw [List.length_set, wip_length]; exact zl)
          unfold lcF
          simp only [gN_ok, bnd, tYesM, if_true]
          rw [h1, bs p hp]
      have a6 : mApp allOp (mCons (mLc false (mIt (mV 2)) (gN 4) tYesM (mCall F_place_right (mCons (mV 3) (mCons (m2 ixOp (mV 3) (mV 4)) (mCons (mLc false (mIt (m2 ixOp (mV 2) (mV 4))) (gN 6) tYesM (m2 ixOp (mV 3) (mV 6)) [6]) mNil)))) [4]) mNil) z [o] = .ok (.bl (((kys t2).map bo).all id)) [o] := by
        refine (mApp_ok (xs := [.lst (bll ((kys t2).map bo))]) (h1 := [o]) (mCons_ok a5 rfl)).trans (all_bll _ _)
      rw [a6, Okv_ok]
      refine fz ?_
      have h1 : ((kys t2).map bo).all id = true ↔ ∀ p, p ∈ kys t2 → Okp (fun q => parse (w q)) (adj ms p) (parse (w p)) := by
        rw [List.all_eq_true]
        constructor
        · intro h p hp
          have := h _ (List.mem_map.mpr ⟨p, hp, rfl⟩)
          rw [id, bs p hp] at this
          exact (Classical.choose_spec (B p hp)).2.mp this
        · intro h x hx
          obtain ⟨p, hp, rfl⟩ := List.mem_map.mp hx
          rw [id, bs p hp]
          exact (Classical.choose_spec (B p hp)).2.mpr (h p hp)
      rw [h1, okp_iff (adj ms) (kys t2) T2.cl (fun q => parse (w q))]
      constructor
      · intro h
        rw [← hk2, List.map_map]
        conv => lhs; rw [← List.map_id l]
        refine List.map_congr_left fun e he => ?_
        have hek : e.1 ∈ kys t2 := (srt_mem kyD).mp (by rw [← hk2]; exact List.mem_map.mpr ⟨e, he, rfl⟩)
        have h2 := parse_iff.mp (h e.1 hek)
        have h3 : e = (e.1, w e.1) := nodup_key ndl e _ he (wv e.1 hek).2 rfl
        simp only [id, Function.comp_def]
        rw [← h2]
        exact h3
      · intro h p hp
        have h2 := (wv p hp).2
        rw [h] at h2
        obtain ⟨q, _, e⟩ := List.mem_map.mp h2
        have e3 : q = p := congrArg Prod.fst e
        have e4 : odD (fin_ (adj ms) (kys t2) q) = w p := congrArg Prod.snd e
        subst e3
        exact parse_iff.mpr e4.symm
    · rw [decide_eq_false hk2]
      simp only [Bool.not_false, if_true, OkS_ret, mC, Okv_ok]
      refine fz ?_
      constructor
      · intro z; cases z
      · intro z
        refine absurd ?_ hk2
        rw [z, List.map_map]
        have : ((fun x : Key × D => x.1) ∘ fun p => (p, odD (fin_ (adj ms) (kys t2) p))) = id := rfl
        rw [this, List.map_id]
  obtain ⟨v, h, e, B, rfl, rfl, hB⟩ := this
  exact ⟨B, e, hB⟩
end
end G89
end

section
set_option Elab.async false
set_option linter.all false
set_option maxRecDepth 100000
set_option autoImplicit false
set_option maxHeartbeats 4000000
/-! W17: what is drawn. -/
namespace G89
open PySem PySem.Spec PyProof.Rows L2 TB
theorem draw_eq : F_law_draw = FDraw := rfl
theorem draws_eq : F_law_draws = FDraws := rfl
theorem pick_eq : F_law_pick = FPick := rfl
theorem same_eq : ∀ k, F_law_same k = FSame k
  | 0 => rfl
  | k + 1 => by
    show callF false (m_law_same (F_law_same k)) 3 = callF false (gSame (FSame k)) 3
    rw [same_eq k]
    rfl
def vsL : List (List Key) := [[.inl 1, .inl 2, .inl 3, .inr (Str.ofString "a"), .inr (Str.ofString "b"), .inr (Str.ofString "c d"), .inl (-4)], [.inr (Str.ofString "x"), .inr (Str.ofString "y"), .inl 0], [.inl 5, .inl 6, .inl 7, .inl 8], [.inl 1]]
def ksD (vs : List Key) : D := .lst (vs.map keyD)
theorem ks_pv (vs : List Key) : Pv 1 (ksD vs) := .lst _ _ fun x hx => by
  obtain ⟨k, _, rfl⟩ := List.mem_map.mp hx
  exact key_pv _ _
section
variable {a0 a2 a3 a4 a5 a6 a7 a8 a9 a10 a11 a12 a13 a14 a15 : Option D} {o : Ob}
theorem places_okv {Q : D → Hh → Prop} (ho : DrOk o) (q : ∀ vs o', DrOk o' → 0 < vs.length → vs.length ≤ 7 → Q (ksD vs) [o']) :
    Okv ((mCall F_law_pick (mCons (mV 1) (mCons (mApp (lstOp false) (mCons (mApp (lstOp false) (mCons (mC (.int 1)) (mCons (mC (.int 2)) (mCons (mC (.int 3)) (mCons (mC (.str (Str.ofString "a"))) (mCons (mC (.str (Str.ofString "b"))) (mCons (mC (.str (Str.ofString "c d"))) (mCons (m1 negOp (mC (.int 4))) mNil)))))))) (mCons (mApp (lstOp false) (mCons (mC (.str (Str.ofString "x"))) (mCons (mC (.str (Str.ofString "y"))) (mCons (mC (.int 0)) mNil)))) (mCons (mApp (lstOp false) (mCons (mC (.int 5)) (mCons (mC (.int 6)) (mCons (mC (.int 7)) (mCons (mC (.int 8)) mNil))))) (mCons (mApp (lstOp false) (mCons (mC (.int 1)) mNil)) mNil))))) mNil))) [a0, some (.ref 0), a2, a3, a4, a5, a6, a7, a8, a9, a10, a11, a12, a13, a14, a15] [o]) Q := by
  have e : (mApp (lstOp false) (mCons (mApp (lstOp false) (mCons (mC (.int 1)) (mCons (mC (.int 2)) (mCons (mC (.int 3)) (mCons (mC (.str (Str.ofString "a"))) (mCons (mC (.str (Str.ofString "b"))) (mCons (mC (.str (Str.ofString "c d"))) (mCons (m1 negOp (mC (.int 4))) mNil)))))))) (mCons (mApp (lstOp false) (mCons (mC (.str (Str.ofString "x"))) (mCons (mC (.str (Str.ofString "y"))) (mCons (mC (.int 0)) mNil)))) (mCons (mApp (lstOp false) (mCons (mC (.int 5)) (mCons (mC (.int 6)) (mCons (mC (.int 7)) (mCons (mC (.int 8)) mNil))))) (mCons (mApp (lstOp false) (mCons (mC (.int 1)) mNil)) mNil))))) [a0, some (.ref 0), a2, a3, a4, a5, a6, a7, a8, a9, a10, a11, a12, a13, a14, a15] [o] = .ok (.lst (vsL.map ksD)) [o] := by
    simp [mApp, mCons, mNil, mC, m1, negOp, vsL, ksD, keyD]
  rw [mCall_ok (mCons_ok (mV_ok rfl) (mCons_ok e rfl)), pick_eq]
  refine pick_okv (k := 1) ho (fun z hz => ?_) (by simp [vsL]) (by simp [vsL]) fun v o2 ho2 hv pv => ?_
  · obtain ⟨vs, _, rfl⟩ := List.mem_map.mp hz
    exact ks_pv vs
  · obtain ⟨vs, hvs, rfl⟩ := List.mem_map.mp hv
    have : 0 < vs.length ∧ vs.length ≤ 7 := by
      simp [vsL] at hvs
      rcases hvs with rfl | rfl | rfl | rfl <;> simp
    exact q vs o2 ho2 this.1 this.2
theorem pickv_okv {vs : List Key} {Q : D → Hh → Prop} (ho : DrOk o) (h0 : 0 < vs.length) (h7 : vs.length ≤ 7) {s : Sl} (s1 : s[1]? = some (some (.ref 0))) (s2 : s[2]? = some (some (ksD vs))) (q : ∀ v o', DrOk o' → v ∈ vs → Q (keyD v) [o']) :
    Okv (mCall F_law_pick (mCons (mV 1) (mCons (mV 2) mNil)) s [o]) Q := by
  rw [mCall_ok (mCons_ok (mV_ok s1) (mCons_ok (mV_ok s2) rfl)), pick_eq]
  refine pick_okv (k := 0) ho (fun z hz => ?_) (by simpa using h0) (by simp; omega) fun v o2 ho2 hv pv => ?_
  · obtain ⟨k, _, rfl⟩ := List.mem_map.mp hz
    exact key_pv _ _
  · obtain ⟨k, hk, rfl⟩ := List.mem_map.mp hv
    exact q k o2 ho2 hk
def In (vs : List Key) (m : Mv) : Prop := m.1 ∈ vs ∧ m.2 ∈ vs
theorem list_of {P : D → Prop} {α : Type} {R : α → Prop} {e : α → D} (hp : ∀ d, P d → ∃ a, d = e a ∧ R a) : ∀ {ys : List D}, (∀ y, y ∈ ys → P y) → ∃ l : List α, ys = l.map e ∧ ∀ a, a ∈ l → R a
  | [], _ => ⟨[], rfl, fun _ h => by cases h⟩
  | y :: ys, h => by
    obtain ⟨a, rfl, ha⟩ := hp y (h y List.mem_cons_self)
    obtain ⟨l, rfl, hl⟩ := list_of hp fun z hz => h z (List.mem_cons_of_mem _ hz)
    exact ⟨a :: l, rfl, fun b hb => by
      rcases List.mem_cons.mp hb with rfl | hb
      · exact ha
      · exact hl b hb⟩
theorem drawN_okv {k : Int} {Q : D → Hh → Prop} (ho : DrOk o) (hk : 0 < k) (hk2 : k < 1073741824) {s : Sl} (s1 : s[1]? = some (some (.ref 0))) (q : ∀ (n : Nat) o', DrOk o' → (n : Int) < k → Q (.int n) [o']) :
    Okv (mCall F_law_draw (mCons (mV 1) (mCons (mC (.int k)) mNil)) s [o]) Q := by
  rw [mCall_ok (mCons_ok (mV_ok s1) (mCons_ok rfl rfl)), draw_eq]
  refine draw_okv ho hk hk2 fun i o' ho' h0 h1 => ?_
  have := q i.toNat o' ho' (by omega)
  rwa [show ((i.toNat : Nat) : Int) = i by omega] at this
theorem moves_okv {vs : List Key} {Q : D → Hh → Prop} (ho : DrOk o) (h0 : 0 < vs.length) (h7 : vs.length ≤ 7) (q : ∀ (ms : List Mv) o', DrOk o' → ms.length ≤ 12 → (∀ m, m ∈ ms → In vs m) → Q (.lst (ms.map mvD)) [o']) :
    Okv ((mLc false (mRng (mCons (mCall F_law_draw (mCons (mV 1) (mCons (mC (.int 13)) mNil))) mNil)) (gN 11) tYesM (mApp tupOp (mCons (mCall F_law_pick (mCons (mV 1) (mCons (mV 2) mNil))) (mCons (mCall F_law_pick (mCons (mV 1) (mCons (mV 2) mNil))) mNil))) [11]) [a0, some (.ref 0), some (ksD vs), a3, a4, a5, a6, a7, a8, a9, a10, a11, a12, a13, a14, a15] [o]) Q := by
  obtain ⟨s, hs⟩ : ∃ s : Sl, s = [a0, some (.ref 0), some (ksD vs), a3, a4, a5, a6, a7, a8, a9, a10, a11, a12, a13, a14, a15] := ⟨_, rfl⟩
  rw [← hs]
  have s1 : s[1]? = some (some (.ref 0)) := by rw [hs]; rfl
  have s2 : s[2]? = some (some (ksD vs)) := by rw [hs]; rfl
  obtain ⟨i, o1, e1, ho1, hn0, hn1⟩ := draw_ok (rest := []) ho (show (0 : Int) < 13 by decide) (by decide)
  have e2 : (mCall F_law_draw (mCons (mV 1) (mCons (mC (.int 13)) mNil))) s [o] = .ok (.int (i.toNat : Nat)) [o1] := by
    rw [mCall_ok (mCons_ok (mV_ok s1) (mCons_ok rfl rfl)), draw_eq, show ((i.toNat : Nat) : Int) = i by omega]
    exact e1
  unfold mLc
  rw [mRng_ok (n := i.toNat) (mCons_ok e2 rfl) (by omega)]
  simp only [Res.bind_ok, Okv_bind]
  refine picks_lc (P := fun d => ∃ m, d = mvD m ∧ In vs m) ho1 (fun x o ho => ?_) (fun ys o2 ho2 hl hp => ?_) _ rfl
  · have w : ∀ i, i ≠ 11 → ((wip s [11]).set 11 (some x))[i]? = s[i]? := fun i hi => by
      rw [List.getElem?_set_ne (Ne.symm hi)]
      simp only [wip]
      rw [List.getElem?_set_ne (Ne.symm hi)]
    simp only [mApp, mCons, mNil, Okv_bind, Res.bind_ok]
    refine pickv_okv ho h0 h7 (by rw [w _ (by decide)]; exact s1) (by rw [w _ (by decide)]; exact s2) fun v o2 ho2 hv => ?_
    refine pickv_okv ho2 h0 h7 (by rw [w _ (by decide)]; exact s1) (by rw [w _ (by decide)]; exact s2) fun u o3 ho3 hu => ?_
    simp only [Okv_ok, tup_ok]
    rw [if_pos (by simp), Okv_ok]
    exact ⟨⟨(v, u), rfl, hv, hu⟩, _, rfl, ho3⟩
  · obtain ⟨ms, rfl, hms⟩ := list_of (fun d h => h) hp
    rw [List.length_map, rngD_len] at hl
    simp only [mkL, Bool.false_eq_true, if_false, Okv_ok]
    exact q ms o2 ho2 (by omega) hms
theorem less_okv {vs : List Key} {ms : List Mv} {Q : D → Hh → Prop} (ho : DrOk o) (hms : ∀ m, m ∈ ms → In vs m) (hl : ms.length ≤ 12) (q : ∀ (ms : List Mv) o', DrOk o' → ms.length ≤ 12 → (∀ m, m ∈ ms → In vs m) → Q (.lst (ms.map mvD)) [o']) :
    Okv ((mLc false (mIt (mV 3)) (gT [(gN 13), (gN 14)]) (mOr (mB (m2 ltOp (mIdx (mV 2) (mCons (mV 13) mNil)) (mIdx (mV 2) (mCons (mV 14) mNil)))) (mB (m2 eqOp (mCall F_law_draw (mCons (mV 1) (mCons (mC (.int 4)) mNil))) (mC (.int 0))))) (mApp tupOp (mCons (mV 13) (mCons (mV 14) mNil))) [13, 14]) [a0, some (.ref 0), some (ksD vs), some (.lst (ms.map mvD)), a4, a5, a6, a7, a8, a9, a10, a11, a12, a13, a14, a15] [o]) Q := by
  unfold mLc
  have e0 : (mIt (mV 3)) [a0, some (.ref 0), some (ksD vs), some (.lst (ms.map mvD)), a4, a5, a6, a7, a8, a9, a10, a11, a12, a13, a14, a15] [o] = .ok (ms.map mvD, none) [o] := by simp [mIt, mV, itOp]
  rw [e0]
  simp only [Res.bind_ok, Okv_bind]
  refine lc_ok (fun i acc h => ∃ l o', acc = l.map mvD ∧ h = [o'] ∧ DrOk o' ∧ l.length ≤ i ∧ ∀ m, m ∈ l → In vs m) ⟨[], o, rfl, rfl, ho, Nat.le_refl _, fun _ h => by cases h⟩ ?_ ?_
  · rintro i x acc h hx ⟨l, o', rfl, rfl, ho', hll, hin⟩
    rw [List.getElem?_map] at hx
    obtain ⟨m, hm, rfl⟩ := Option.map_eq_some_iff.mp hx
    have hmi := hms m (List.mem_of_getElem? hm)
    unfold lcF
    have eg : ∀ (s : Sl) (h : Hh), gT [(gN 13), (gN 14)] (mvD m) s h = .ok ((s.set 13 (some (keyD m.1))).set 14 (some (keyD m.2))) h := fun s h => by simp [gT, gSeq, mvD]
    rw [eg]
    simp only [bnd, wip, List.set_cons_zero, List.set_cons_succ]
    obtain ⟨s, hs⟩ : ∃ s : Sl, s = [a0, some (.ref 0), some (ksD vs), some (.lst (ms.map mvD)), a4, a5, a6, a7, a8, a9, a10, a11, a12, some (keyD m.1), some (keyD m.2), a15] := ⟨_, rfl⟩
    rw [← hs]
    have s1 : s[1]? = some (some (.ref 0)) := by rw [hs]; rfl
    have s2 : s[2]? = some (some (ksD vs)) := by rw [hs]; rfl
    have s13 : s[13]? = some (some (keyD m.1)) := by rw [hs]; rfl
    have s14 : s[14]? = some (some (keyD m.2)) := by rw [hs]; rfl
    have ix : ∀ (j : Nat) (v : Key), s[j]? = some (some (keyD v)) → v ∈ vs → ∃ n : Nat, mIdx (mV 2) (mCons (mV j) mNil) s [o'] = .ok (.int n) [o'] := fun j v hj hv => by
      have e : mV 2 s [o'] = .ok (ksD vs) [o'] := mV_ok s2
      have hokv : okD (keyD v) = true := (key_pv v 0).ok (by decide)
      have hoks := key_eqv.oks vs
      obtain ⟨n, hn⟩ : ∃ n, findD (keyD v) (vs.map keyD) = some n := ⟨_, key_eqv.find hv⟩
      refine ⟨n, ?_⟩
      unfold mIdx
      rw [e]
      simp only [ksD] at e ⊢
      unfold mMet
      rw [e]
      simp [isTy, kin, mCons, mNil, mV, hj, indexOp, lsOf, hokv, hoks, hn]
    obtain ⟨n1, x1⟩ := ix 13 _ s13 hmi.1
    obtain ⟨n2, x2⟩ := ix 14 _ s14 hmi.2
    have t1 : mB (m2 ltOp (mIdx (mV 2) (mCons (mV 13) mNil)) (mIdx (mV 2) (mCons (mV 14) mNil))) s [o'] = .ok (decide ((n1 : Int) < n2)) [o'] :=
      mB_ok ((m2_ok x1 x2).trans (by rw [TB.lt_int]))
    have keep : ∀ o2, mApp tupOp (mCons (mV 13) (mCons (mV 14) mNil)) s [o2] = .ok (mvD m) [o2] := fun o2 =>
      (mApp_ok (mCons_ok (mV_ok s13) (mCons_ok (mV_ok s14) rfl))).trans (by simp [mvD])
    obtain ⟨n, o1, e1, ho1, hn0, hn1⟩ := draw_ok (rest := []) ho' (show (0 : Int) < 4 by decide) (by decide)
    have e2 : mCall F_law_draw (mCons (mV 1) (mCons (mC (.int 4)) mNil)) s [o'] = .ok (.int n) [o1] := by
      rw [mCall_ok (mCons_ok (mV_ok s1) (mCons_ok rfl rfl)), draw_eq]
      exact e1
    have t2 : mB (m2 eqOp (mCall F_law_draw (mCons (mV 1) (mCons (mC (.int 4)) mNil))) (mC (.int 0))) s [o'] = .ok (n == 0) [o1] := mB_ok ((m2_ok e2 rfl).trans (TB.eq_int))
    have tt : ∃ b o2, DrOk o2 ∧ mOr (mB (m2 ltOp (mIdx (mV 2) (mCons (mV 13) mNil)) (mIdx (mV 2) (mCons (mV 14) mNil)))) (mB (m2 eqOp (mCall F_law_draw (mCons (mV 1) (mCons (mC (.int 4)) mNil))) (mC (.int 0)))) s [o'] = .ok b [o2] := by
      rw [or_ok2 t1]
      by_cases q : decide ((n1 : Int) < n2) = true
      · exact ⟨true, o', ho', by rw [if_pos q]⟩
      · exact ⟨_, o1, ho1, by rw [if_neg q]; exact t2⟩
    obtain ⟨b, o2, ho2, e3⟩ := tt
    rw [e3]
    cases b with
    | true =>
      simp only [if_true, keep, Okv_ok]
      refine ⟨l ++ [m], o2, by simp, rfl, ho2, by simp; omega, fun x hx => ?_⟩
      rcases List.mem_append.mp hx with hx | hx
      · exact hin x hx
      · simp at hx; subst hx; exact hmi
    | false =>
      simp only [Bool.false_eq_true, if_false, Okv_ok]
      exact ⟨l, o2, by simp, rfl, ho2, by omega, hin⟩
  · rintro acc h ⟨l, o', rfl, rfl, ho', hll, hin⟩
    rw [List.length_map] at hll
    simp only [mkL, Bool.false_eq_true, if_false, Okv_ok]
    exact q l o' ho' (by omega) hin
end
end G89
end

section
set_option Elab.async false
set_option linter.all false
set_option maxRecDepth 100000
set_option autoImplicit false
set_option maxHeartbeats 4000000
/-! W18: bent outcomes. -/
namespace G89
open PySem PySem.Spec PyProof.Rows L2 TB
/-- only the slots js may differ -/
structure Fr (s0 s : Sl) (js : List Nat) : Prop where
  len : s.length = s0.length
  at_ : ∀ i, i ∉ js → s[i]? = s0[i]?
theorem Fr.refl (s : Sl) (js : List Nat) : Fr s s js := ⟨rfl, fun _ _ => rfl⟩
theorem Fr.set {s0 s : Sl} {js : List Nat} (f : Fr s0 s js) {j : Nat} (hj : j ∈ js) (v : Option D) : Fr s0 (s.set j v) js :=
  ⟨by rw [List.length_set]; exact f.len, fun i hi => by rw [List.getElem?_set_ne (show j ≠ i from fun e => hi (by rw [← e]; exact hj))]; exact f.at_ i hi⟩
theorem Fr.trans {s0 s1 s2 : Sl} {js : List Nat} (a : Fr s0 s1 js) (b : Fr s1 s2 js) : Fr s0 s2 js := ⟨b.len.trans a.len, fun i hi => (b.at_ i hi).trans (a.at_ i hi)⟩
mutual
theorem eqv_refl : ∀ (d : D) {k : Nat}, Pv k d → eqv d d = true
  | .tup xs, k, p => by
    cases p with
    | tup k _ h => rw [eqv]; exact eqvs_refl xs h
  | .lst xs, k, p => by
    cases p with
    | lst k _ h => rw [eqv]; exact eqvs_refl xs h
  | .non, _, _ => by simp [eqv]
  | .bl _, _, _ => by simp [eqv]
  | .int _, _, _ => by simp [eqv]
  | .str _, _, _ => by simp [eqv]
theorem eqvs_refl : ∀ (xs : List D) {k : Nat}, (∀ x, x ∈ xs → Pv k x) → eqvs xs xs = true
  | [], _, _ => by simp [eqvs]
  | x :: xs, _, h => by
    rw [eqvs, eqv_refl x (h x List.mem_cons_self), eqvs_refl xs fun y hy => h y (List.mem_cons_of_mem _ hy)]
    rfl
end
theorem rows_rowE (f : Key → Option Oc) (K : List Key) : rowsD f K = (K.map fun p => (p, odD (f p))).map rowE := by
  unfold rowsD
  rw [List.map_map]
  rfl
theorem rowE_inj {l m : List (Key × D)} (h : l.map rowE = m.map rowE) : l = m := by
  induction l generalizing m with
  | nil => cases m with
    | nil => rfl
    | cons b m => simp at h
  | cons a l ih => cases m with
    | nil => simp at h
    | cons b m =>
      simp only [List.map_cons, List.cons.injEq, rowE, D.tup.injEq, and_true] at h
      rw [ih h.2]
      have h1 := keyD_inj h.1.1
      have h2 := h.1.2
      rw [Prod.ext h1 h2]
theorem key_sm (v : Key) (k : Nat) : Sm (k + 1) (keyD v) := by cases v <;> first | exact .int _ _ | exact .str _ _
theorem od_sm (x : Option Oc) (k : Nat) : Sm (k + 2) (odD x) := by
  cases x with
  | some o =>
    refine .tup _ _ (by simp) fun x hx => ?_
    simp at hx
    rcases hx with rfl | rfl
    · exact .str _ _
    · exact .int _ _
  | none => exact .tup _ _ (by simp) fun x hx => by simp at hx; subst hx; exact .str _ _
theorem rowE_sm {k : Nat} {e : Key × D} (h : Sm (k + 1) e.2) : Sm (k + 2) (rowE e) := .tup _ _ (by simp) fun x hx => by
  simp at hx
  rcases hx with rfl | rfl
  · exact key_sm _ _
  · exact h
theorem tupE_sm {k : Nat} {l : List (Key × D)} (hl : l.length ≤ 1000) (h : ∀ e, e ∈ l → Sm (k + 1) e.2) : Sm (k + 3) (.tup (l.map rowE)) := .tup _ _ (by simp; omega) fun x hx => by
  obtain ⟨e, he, rfl⟩ := List.mem_map.mp hx
  exact rowE_sm (h e he)
def Good (l : List (Key × D)) : Prop := l.length ≤ 200 ∧ ∀ e, e ∈ l → Sm 3 e.2
theorem Good.sub {l m : List (Key × D)} (g : Good l) (hm : ∀ e, e ∈ m → e ∈ l) (hl : m.length ≤ l.length) : Good m := ⟨Nat.le_trans hl g.1, fun e he => g.2 e (hm e he)⟩
theorem cut_mem {α : Type} {l : List α} {a b : Option Int} {x : α} (h : x ∈ TB.cutD l a b) : x ∈ l := by
  unfold TB.cutD at h
  exact List.mem_of_mem_drop (List.mem_of_mem_take h)
section
variable {ms : List Mv} {t : Tb}
/-- what is told of any bent outcomes is right -/
theorem bent_ok (T : IsTb ms t) (hm : ms.length ≤ 12) (hK : (kys t).length ≤ 100) {x : D} (hx : (∃ l, Good l ∧ x = .tup (l.map rowE)) ∨ (∃ l, Good l ∧ x = .lst (l.map rowE)) ∨ x = .non) {s : Sl} {o : Ob} (s4 : s[4]? = some (some (.lst (fcsD ms)))) (s8 : s[8]? = some (some (.tup (rowsD (fin_ (adj ms) (kys t)) (srt kyD (kys t)))))) (s12 : s[12]? = some (some x)) :
    ∃ B, mCall F_outcomes_right (mCons (mV 4) (mCons (mV 12) mNil)) s [o] = .ok (.bl B) [o] ∧ (mAndV (mApp isiOp (mCons (mV 12) (mCons (mC (.ty "tuple")) mNil))) (mAndV (m2 eqOp (mV 12) (mV 8)) (mCall (F_law_same 5) (mCons (mV 12) (mCons (mV 8) mNil))))) s [o] = .ok (.bl B) [o] := by
  have px : Pv 6 x := by
    rcases hx with ⟨l, g, rfl⟩ | ⟨l, g, rfl⟩ | rfl
    · exact (tupE_sm (k := 3) (by have := g.1; omega) fun e he => (g.2 e he).mono (by omega)).pv
    · exact (Sm.lst 5 _ (by have := g.1; simp; omega) fun y hy => by
        obtain ⟨e, he, rfl⟩ := List.mem_map.mp hy
        exact rowE_sm ((g.2 e he).mono (by omega))).pv
    · exact .non _
  have hcall : ∀ {B}, F_outcomes_right [.lst (fcsD ms), x] [] = .ok (.bl B) [] → mCall F_outcomes_right (mCons (mV 4) (mCons (mV 12) mNil)) s [o] = .ok (.bl B) [o] := fun e => by
    rw [mCall_ok (mCons_ok (mV_ok s4) (mCons_ok (mV_ok s12) rfl))]
    exact call_pv (fun d hd => by
      simp at hd
      rcases hd with rfl | rfl
      · exact ⟨3, .lst _ _ (fcs_pv ms)⟩
      · exact ⟨_, px⟩) e (.bl 0 _)
  have hi : mApp isiOp (mCons (mV 12) (mCons (mC (.ty "tuple")) mNil)) s [o] = .ok (.bl (isT (kd x) .tup)) [o] := eIsi_ok s12 px rfl
  by_cases ht : isT (kd x) .tup = true
  · obtain ⟨l, g, rfl⟩ : ∃ l, Good l ∧ x = .tup (l.map rowE) := by
      rcases hx with h | ⟨l, g, rfl⟩ | rfl
      · exact h
      · simp [kd, isT] at ht
      · simp [kd, isT] at ht
    obtain ⟨B, e, iB⟩ := right_ok T hm (l := l) (k := 3) (by omega) fun e he => (g.2 e he).pv
    refine ⟨B, hcall e, ?_⟩
    rw [andE_ok hi, if_pos ht]
    rw [rows_rowE] at s8
    have dsm : Sm 5 (.tup (((srt kyD (kys t)).map fun p => (p, odD (fin_ (adj ms) (kys t) p))).map rowE)) := tupE_sm (k := 2) (by rw [List.length_map, srt_len]; omega) fun e he => by
      obtain ⟨p, _, rfl⟩ := List.mem_map.mp he
      exact od_sm _ 1
    have xsm : Sm 6 (.tup (l.map rowE)) := tupE_sm (k := 3) (by have := g.1; omega) fun e he => (g.2 e he).mono (by omega)
    have e1 : m2 eqOp (mV 12) (mV 8) s [o] = .ok (.bl (eqv (.tup (l.map rowE)) (.tup (((srt kyD (kys t)).map fun p => (p, odD (fin_ (adj ms) (kys t) p))).map rowE)))) [o] := by
      rw [m2_ok (mV_ok s12) (mV_ok s8)]
      unfold eqOp
      rw [rd_pv px, rd_pv dsm.pv, px.ok (by omega), dsm.pv.ok (by omega)]
      rfl
    have e2 : mCall (F_law_same 5) (mCons (mV 12) (mCons (mV 8) mNil)) s [o] = .ok (.bl (eqD (.tup (l.map rowE)) (.tup (((srt kyD (kys t)).map fun p => (p, odD (fin_ (adj ms) (kys t) p))).map rowE)))) [o] := by
      rw [mCall_ok (mCons_ok (mV_ok s12) (mCons_ok (mV_ok s8) rfl)), same_eq]
      exact FSame_call xsm dsm
    rw [andE_ok e1, e2]
    have q := eqD_iff (.tup (l.map rowE)) (.tup (((srt kyD (kys t)).map fun p => (p, odD (fin_ (adj ms) (kys t) p))).map rowE)) dsm.pv
    by_cases hl : l = (srt kyD (kys t)).map fun p => (p, odD (fin_ (adj ms) (kys t) p))
    · rw [iB.mpr hl]
      rw [← hl, if_pos (eqv_refl _ px), (eqD_iff _ _ px).mpr rfl]
    · have hB : B = false := by
        rw [Bool.eq_false_iff]
        exact fun z => hl (iB.mp z)
      have hE : eqD (.tup (l.map rowE)) (.tup (((srt kyD (kys t)).map fun p => (p, odD (fin_ (adj ms) (kys t) p))).map rowE)) = false := by
        rw [Bool.eq_false_iff]
        intro z
        have := q.mp z
        simp only [D.tup.injEq] at this
        exact hl (rowE_inj this)
      rw [hE, hB]
      split <;> rfl
  · have ht' : isT (kd x) .tup = false := by simpa using ht
    refine ⟨false, hcall (not_tup_ok hm px ht'), ?_⟩
    rw [andE_ok hi, if_neg ht]
def badL : List D := [.tup [.str (Str.ofString "draw")], .tup [.str (Str.ofString "win"), .int 1], .tup [.str (Str.ofString "win"), .int 2], .tup [.str (Str.ofString "lose"), .int 0], .tup [.str (Str.ofString "lose"), .int 2], .tup [.str (Str.ofString "win")], .tup [.str (Str.ofString "lose"), .bl true], .non, .tup [.str (Str.ofString "win"), .int 3], .str (Str.ofString "draw")]
theorem bad_sm : ∀ x, x ∈ badL → Sm 3 x := fun x hx => by
  have h1 : ∀ s, Sm 3 (.tup [.str s]) := fun s => .tup _ _ (by simp) fun y hy => by simp at hy; subst hy; exact .str _ _
  have h2 : ∀ s i, Sm 3 (.tup [.str s, .int i]) := fun s i => .tup _ _ (by simp) fun y hy => by
    simp at hy
    rcases hy with rfl | rfl
    · exact .str _ _
    · exact .int _ _
  have h3 : ∀ s b, Sm 3 (.tup [.str s, .bl b]) := fun s i => .tup _ _ (by simp) fun y hy => by
    simp at hy
    rcases hy with rfl | rfl
    · exact .str _ _
    · exact .bl _ _
  simp only [badL, List.mem_cons, List.not_mem_nil, or_false] at hx
  rcases hx with rfl | rfl | rfl | rfl | rfl | rfl | rfl | rfl | rfl | rfl
  · exact h1 _
  · exact h2 _ _
  · exact h2 _ _
  · exact h2 _ _
  · exact h2 _ _
  · exact h1 _
  · exact h3 _ _
  · exact .non _
  · exact h2 _ _
  · exact .str _ _
noncomputable def mBad : EM := mCall F_law_pick (mCons (mV 1) (mCons (mApp (lstOp false) (mCons (mApp tupOp (mCons (mC (.str (Str.ofString "draw"))) mNil)) (mCons (mApp tupOp (mCons (mC (.str (Str.ofString "win"))) (mCons (mC (.int 1)) mNil))) (mCons (mApp tupOp (mCons (mC (.str (Str.ofString "win"))) (mCons (mC (.int 2)) mNil))) (mCons (mApp tupOp (mCons (mC (.str (Str.ofString "lose"))) (mCons (mC (.int 0)) mNil))) (mCons (mApp tupOp (mCons (mC (.str (Str.ofString "lose"))) (mCons (mC (.int 2)) mNil))) (mCons (mApp tupOp (mCons (mC (.str (Str.ofString "win"))) mNil)) (mCons (mApp tupOp (mCons (mC (.str (Str.ofString "lose"))) (mCons (mC (.bl true)) mNil))) (mCons (mC .non) (mCons (mApp tupOp (mCons (mC (.str (Str.ofString "win"))) (mCons (mC (.int 3)) mNil))) (mCons (mC (.str (Str.ofString "draw"))) mNil))))))))))) mNil))
theorem tup1 {s : Sl} {h : Hh} (x : D) : mApp tupOp (mCons (mC x) mNil) s h = .ok (.tup [x]) h := by simp [mApp, mCons, mNil, mC]
theorem tup2 {s : Sl} {h : Hh} (x y : D) : mApp tupOp (mCons (mC x) (mCons (mC y) mNil)) s h = .ok (.tup [x, y]) h := by simp [mApp, mCons, mNil, mC]
theorem mBad_okv {s : Sl} {o : Ob} {Q : D → Hh → Prop} (ho : DrOk o) (s1 : s[1]? = some (some (.ref 0))) (q : ∀ v o', DrOk o' → Sm 3 v → Q v [o']) : Okv (mBad s [o]) Q := by
  unfold mBad
  have e : (mApp (lstOp false) (mCons (mApp tupOp (mCons (mC (.str (Str.ofString "draw"))) mNil)) (mCons (mApp tupOp (mCons (mC (.str (Str.ofString "win"))) (mCons (mC (.int 1)) mNil))) (mCons (mApp tupOp (mCons (mC (.str (Str.ofString "win"))) (mCons (mC (.int 2)) mNil))) (mCons (mApp tupOp (mCons (mC (.str (Str.ofString "lose"))) (mCons (mC (.int 0)) mNil))) (mCons (mApp tupOp (mCons (mC (.str (Str.ofString "lose"))) (mCons (mC (.int 2)) mNil))) (mCons (mApp tupOp (mCons (mC (.str (Str.ofString "win"))) mNil)) (mCons (mApp tupOp (mCons (mC (.str (Str.ofString "lose"))) (mCons (mC (.bl true)) mNil))) (mCons (mC .non) (mCons (mApp tupOp (mCons (mC (.str (Str.ofString "win"))) (mCons (mC (.int 3)) mNil))) (mCons (mC (.str (Str.ofString "draw"))) mNil))))))))))) s [o] = .ok (.lst badL) [o] :=
    (mApp_ok (mCons_ok (tup1 _) (mCons_ok (tup2 _ _) (mCons_ok (tup2 _ _) (mCons_ok (tup2 _ _) (mCons_ok (tup2 _ _) (mCons_ok (tup1 _) (mCons_ok (tup2 _ _) (mCons_ok rfl (mCons_ok (tup2 _ _) (mCons_ok rfl rfl)))))))))))
      |>.trans (by simp [badL])
  rw [mCall_ok (mCons_ok (mV_ok s1) (mCons_ok e rfl)), pick_eq]
  refine pick_okv (k := 3) ho (fun z hz => (bad_sm z hz).pv) (by simp [badL]) (by simp [badL]) fun v o2 ho2 hv _ => q v o2 ho2 (bad_sm v hv)
end
end G89
end

section
set_option Elab.async false
set_option linter.all false
set_option maxRecDepth 100000
set_option autoImplicit false
set_option maxHeartbeats 4000000
/-! W19: a turn with bent outcomes. -/
namespace G89
open PySem PySem.Spec PyProof.Rows L2 TB
noncomputable def mTurn : SM := (sThen (sAsg (mIf (mB (m2 gtOp (mApp lenOp (mCons (mV 8) mNil)) (mC (.int 0)))) (mCall F_law_draw (mCons (mV 1) (mCons (mApp lenOp (mCons (mV 8) mNil)) mNil))) (mC (.int 0))) (gN 11))
    (sThen (sAsg (mV 8) (gN 12))
    (sThen (sIf (mAnd (mB (m2 gtOp (mApp lenOp (mCons (mV 8) mNil)) (mC (.int 0)))) (mB (m2 gtOp (mCall F_law_draw (mCons (mV 1) (mCons (mC (.int 4)) mNil))) (mC (.int 0))))) (sAsg (m2 (addOp false) (m2 (addOp false) (mSl false (mV 8) none (some (mV 11))) (mApp tupOp (mCons (mApp tupOp (mCons (m2 ixOp (m2 ixOp (mV 8) (mV 11)) (mC (.int 0))) (mCons mBad mNil))) mNil))) (mSl false (mV 8) (some (m2 (addOp false) (mV 11) (mC (.int 1)))) none)) (gN 12)) sNil)
    (sThen (sAsg (mCall F_law_pick (mCons (mV 1) (mCons (mApp (lstOp false) (mCons (mV 12) (mCons (mV 12) (mCons (mV 12) (mCons (mApp (listOp1 false) (mCons (mV 12) mNil)) (mCons (mSl false (mV 12) (some (mC (.int 1))) none) (mCons (m1 (revAOp false) (mV 12)) (mCons (mC .non) mNil)))))))) mNil))) (gN 12))
    (sIf (mNot (mTru (mCall (F_law_same 5) (mCons (mCall F_outcomes_right (mCons (mV 4) (mCons (mV 12) mNil))) (mCons (mAndV (mApp isiOp (mCons (mV 12) (mCons (mC (.ty "tuple")) mNil))) (mAndV (m2 eqOp (mV 12) (mV 8)) (mCall (F_law_same 5) (mCons (mV 12) (mCons (mV 8) mNil))))) mNil))))) (sRet (mC (.bl false))) sNil)))))
theorem tupE_pv {l : List (Key × D)} (h : Good l) : Pv 5 (.tup (l.map rowE)) := (tupE_sm (k := 2) (by have := h.1; omega) fun e he => h.2 e he).pv
theorem lstE_pv {l : List (Key × D)} (h : Good l) : Pv 5 (.lst (l.map rowE)) := .lst _ _ fun y hy => by
  obtain ⟨e, he, rfl⟩ := List.mem_map.mp hy
  exact (rowE_sm (h.2 e he)).pv
def Bent (x : D) : Prop := (∃ l, Good l ∧ x = .tup (l.map rowE)) ∨ (∃ l, Good l ∧ x = .lst (l.map rowE)) ∨ x = .non
section
variable {ms : List Mv} {t : Tb}
theorem turn_ok (T : IsTb ms t) (hm : ms.length ≤ 12) (hK : (kys t).length ≤ 50) {s0 : Sl} {o : Ob} (hl : s0.length = 16) (h1 : s0[1]? = some (some (.ref 0))) (h4 : s0[4]? = some (some (.lst (fcsD ms)))) (h8 : s0[8]? = some (some (.tup (rowsD (fin_ (adj ms) (kys t)) (srt kyD (kys t)))))) (ho : DrOk o) {R : D → Hh → Prop} {B C : Sl → Hh → Prop} :
    OkS (mTurn s0 [o]) (fun s h => Fr s0 s [11, 12] ∧ ∃ o', h = [o'] ∧ DrOk o') R B C := by
  obtain ⟨l0, hl0⟩ : ∃ l0, l0 = (srt kyD (kys t)).map fun p => (p, odD (fin_ (adj ms) (kys t) p)) := ⟨_, rfl⟩
  have g0 : l0.length ≤ 50 ∧ ∀ e, e ∈ l0 → Sm 3 e.2 := by
    rw [hl0]
    refine ⟨by rw [List.length_map, srt_len]; exact hK, fun e he => ?_⟩
    obtain ⟨p, _, rfl⟩ := List.mem_map.mp he
    exact od_sm _ 1
  have h8' : s0[8]? = some (some (.tup (l0.map rowE))) := by rw [h8, rows_rowE, hl0]
  have el : ∀ {s : Sl} {o : Ob}, s[8]? = some (some (.tup (l0.map rowE))) → mApp lenOp (mCons (mV 8) mNil) s [o] = .ok (.int (l0.length : Nat)) [o] := fun h => (mApp_ok (mCons_ok (mV_ok h) rfl)).trans (by simp)
  have egt : ∀ {s : Sl} {o : Ob}, s[8]? = some (some (.tup (l0.map rowE))) → mB (m2 gtOp (mApp lenOp (mCons (mV 8) mNil)) (mC (.int 0))) s [o] = .ok (decide ((0 : Int) < (l0.length : Nat))) [o] := fun h => mB_ok ((m2_ok (el h) rfl).trans (by rw [TB.gt_int]))
  unfold mTurn
  rw [OkS_then, OkS_asg]
  have A : ∃ (k : Nat) (o1 : Ob), DrOk o1 ∧ (mIf (mB (m2 gtOp (mApp lenOp (mCons (mV 8) mNil)) (mC (.int 0)))) (mCall F_law_draw (mCons (mV 1) (mCons (mApp lenOp (mCons (mV 8) mNil)) mNil))) (mC (.int 0))) s0 [o] = .ok (.int k) [o1] ∧ (0 < l0.length → k < l0.length) := by
    by_cases h0 : (0 : Int) < (l0.length : Nat)
    · obtain ⟨i, o1, e1, ho1, hn0, hn1⟩ := draw_ok (rest := []) ho h0 (by omega)
      refine ⟨i.toNat, o1, ho1, ?_, fun _ => by omega⟩
      unfold mIf
      rw [egt h8', decide_eq_true h0]
      simp only [Res.bind_ok, if_true]
      rw [mCall_ok (mCons_ok (mV_ok h1) (mCons_ok (el h8') rfl)), draw_eq, show ((i.toNat : Nat) : Int) = i by omega]
      exact e1
    · refine ⟨0, o, ho, ?_, fun h => by omega⟩
      unfold mIf
      rw [egt h8', decide_eq_false h0]
      rfl
  obtain ⟨k, o1, ho1, eA, hk⟩ := A
  rw [eA, Okv_ok, gN_ok, Okv_ok, OkS_then, OkS_asg]
  obtain ⟨s1, hs1⟩ : ∃ s1, s1 = s0.set 11 (some (.int k)) := ⟨_, rfl⟩
  rw [← hs1]
  have f1 : Fr s0 s1 [11, 12] := by rw [hs1]; exact (Fr.refl s0 _).set (by simp) _
  have a8 : s1[8]? = some (some (.tup (l0.map rowE))) := by rw [f1.at_ 8 (by simp)]; exact h8'
  rw [mV_ok a8, Okv_ok, gN_ok, Okv_ok, OkS_then]
  obtain ⟨s2, hs2⟩ : ∃ s2, s2 = s1.set 12 (some (.tup (l0.map rowE))) := ⟨_, rfl⟩
  rw [← hs2]
  have f2 : Fr s0 s2 [11, 12] := by rw [hs2]; exact f1.set (by simp) _
  have b1 : s2[1]? = some (some (.ref 0)) := by rw [f2.at_ 1 (by simp)]; exact h1
  have b8 : s2[8]? = some (some (.tup (l0.map rowE))) := by rw [f2.at_ 8 (by simp)]; exact h8'
  have b11 : s2[11]? = some (some (.int k)) := by rw [hs2, List.getElem?_set_ne (by decide), hs1, List.getElem?_set_self (by omega)]
  have b12 : s2[12]? = some (some (.tup (l0.map rowE))) := by rw [hs2, List.getElem?_set_self (by rw [f1.len]; omega)]
  -- the row that may be bent
  refine OkS.mono (N := fun s h => Fr s0 s [11, 12] ∧ ∃ o' l, h = [o'] ∧ DrOk o' ∧ Good l ∧ s[12]? = some (some (.tup (l.map rowE)))) (R := fun _ _ => False) (B := fun _ _ => False) (C := fun _ _ => False) ?_ ?_ (fun _ _ z => z.elim) (fun _ _ z => z.elim) (fun _ _ z => z.elim)
  · rw [OkS_if]
    have same : ∀ o', DrOk o' → OkS (sNil s2 [o']) (fun s h => Fr s0 s [11, 12] ∧ ∃ o' l, h = [o'] ∧ DrOk o' ∧ Good l ∧ s[12]? = some (some (.tup (l.map rowE)))) (fun _ _ => False) (fun _ _ => False) (fun _ _ => False) := fun o' ho' => OkS_nil.mpr ⟨f2, o', l0, rfl, ho', ⟨by omega, g0.2⟩, b12⟩
    rw [and_ok (egt b8)]
    by_cases h0 : (0 : Int) < (l0.length : Nat)
    · rw [if_pos (decide_eq_true h0)]
      obtain ⟨n, o2, e2, ho2, hn0, hn1⟩ := draw_ok (rest := []) ho1 (show (0 : Int) < 4 by decide) (by decide)
      have e3 : mCall F_law_draw (mCons (mV 1) (mCons (mC (.int 4)) mNil)) s2 [o1] = .ok (.int n) [o2] := by
        rw [mCall_ok (mCons_ok (mV_ok b1) (mCons_ok rfl rfl)), draw_eq]
        exact e2
      rw [mB_ok ((m2_ok e3 rfl).trans TB.gt_int), Okv_ok]
      by_cases hn : decide ((0 : Int) < n) = true
      · rw [if_pos hn, OkS_asg]
        have hk' : k < l0.length := hk (by omega)
        have c1 : mSl false (mV 8) none (some (mV 11)) s2 [o2] = .ok (.tup ((TB.cutD l0 none (some (k : Int))).map rowE)) [o2] := by
          unfold mSl
          rw [mV_ok b8]
          simp [mPart, mV_ok b11, slOp, cut_map]
        have c2 : ∀ o, mSl false (mV 8) (some (m2 (addOp false) (mV 11) (mC (.int 1)))) none s2 [o] = .ok (.tup ((TB.cutD l0 (some ((k : Int) + 1)) none).map rowE)) [o] := fun o => by
          have e : m2 (addOp false) (mV 11) (mC (.int 1)) s2 [o] = .ok (.int ((k : Int) + 1)) [o] := (m2_ok (mV_ok b11) rfl).trans TB.add_int
          unfold mSl
          rw [mV_ok b8]
          simp [mPart, e, slOp, cut_map]
        have c3 : m2 ixOp (m2 ixOp (mV 8) (mV 11)) (mC (.int 0)) s2 [o2] = .ok (keyD l0[k].1) [o2] := by
          have ha : atI (l0.map rowE) (k : Nat) = some (rowE l0[k]) := by rw [atI_ge (by omega)]; simp [hk']
          refine (m2_ok (x := rowE l0[k]) (h1 := [o2]) ((m2_ok (mV_ok b8) (mV_ok b11)).trans (by simp [ha])) rfl).trans (by simp [rowE])
        have lc := TB.cut_len l0 none (some (k : Int))
        have ld := TB.cut_len l0 (some ((k : Int) + 1)) none
        have lz : (1000 : Nat) ≤ sizeLine := by decide
        have e4 : ∀ {Q : D → Hh → Prop}, (∀ v o3, DrOk o3 → Sm 3 v → Q (.tup (((TB.cutD l0 none (some (k : Int))) ++ [(l0[k].1, v)] ++ (TB.cutD l0 (some ((k : Int) + 1)) none)).map rowE)) [o3]) → Okv (m2 (addOp false) (m2 (addOp false) (mSl false (mV 8) none (some (mV 11))) (mApp tupOp (mCons (mApp tupOp (mCons (m2 ixOp (m2 ixOp (mV 8) (mV 11)) (mC (.int 0))) (mCons mBad mNil))) mNil))) (mSl false (mV 8) (some (m2 (addOp false) (mV 11) (mC (.int 1)))) none) s2 [o2]) Q := fun {Q} q => by
          obtain ⟨v, hb, eb, o3, rfl, ho3, sv⟩ : ∃ v h, mBad s2 [o2] = .ok v h ∧ ∃ o3, h = [o3] ∧ DrOk o3 ∧ Sm 3 v := by
            have := mBad_okv (Q := fun v h => ∃ o3, h = [o3] ∧ DrOk o3 ∧ Sm 3 v) ho2 b1 fun v o3 ho3 sv => ⟨o3, rfl, ho3, sv⟩
            exact this
          have e5 : mApp tupOp (mCons (mApp tupOp (mCons (m2 ixOp (m2 ixOp (mV 8) (mV 11)) (mC (.int 0))) (mCons mBad mNil))) mNil) s2 [o2] = .ok (.tup [rowE (l0[k].1, v)]) [o3] := by
            have : mApp tupOp (mCons (m2 ixOp (m2 ixOp (mV 8) (mV 11)) (mC (.int 0))) (mCons mBad mNil)) s2 [o2] = .ok (rowE (l0[k].1, v)) [o3] := (mApp_ok (mCons_ok c3 (mCons_ok eb rfl))).trans (by simp [rowE])
            exact (mApp_ok (mCons_ok this rfl)).trans (by simp)
          have e6 : m2 (addOp false) (mSl false (mV 8) none (some (mV 11))) (mApp tupOp (mCons (mApp tupOp (mCons (m2 ixOp (m2 ixOp (mV 8) (mV 11)) (mC (.int 0))) (mCons mBad mNil))) mNil)) s2 [o2] = .ok (.tup ((TB.cutD l0 none (some (k : Int)) ++ [(l0[k].1, v)]).map rowE)) [o3] := by
            refine (m2_ok c1 e5).trans ?_
            rw [TB.add_tup, if_pos (by simp; omega)]
            simp
          rw [m2_ok e6 (c2 o3), TB.add_tup, if_pos (by rw [List.length_map, List.length_map, List.length_append]; simp only [List.length_cons, List.length_nil]; omega), Okv_ok]
          have := q v o3 ho3 sv
          simpa using this
        refine e4 fun v o3 ho3 sv => ?_
        rw [gN_ok, Okv_ok]
        refine ⟨f2.set (by simp) _, o3, (TB.cutD l0 none (some (k : Int)) ++ [(l0[k].1, v)] ++ TB.cutD l0 (some ((k : Int) + 1)) none), rfl, ho3, ⟨by rw [List.length_append, List.length_append]; simp only [List.length_cons, List.length_nil]; omega, fun e he => ?_⟩, by rw [List.getElem?_set_self (by rw [f2.len]; omega)]⟩
        rcases List.mem_append.mp he with he | he
        · rcases List.mem_append.mp he with he | he
          · exact g0.2 e (cut_mem he)
          · simp at he; subst he; exact sv
        · exact g0.2 e (cut_mem he)
      · rw [if_neg hn]
        exact same o2 ho2
    · rw [if_neg (by rw [decide_eq_false h0]; exact Bool.false_ne_true), Okv_ok, if_neg Bool.false_ne_true]
      exact same o1 ho1
  · rintro s3 h ⟨f3, o3, l, rfl, ho3, gl, c12⟩
    have c1 : s3[1]? = some (some (.ref 0)) := by rw [f3.at_ 1 (by simp)]; exact h1
    have e1 : mApp (lstOp false) (mCons (mV 12) (mCons (mV 12) (mCons (mV 12) (mCons (mApp (listOp1 false) (mCons (mV 12) mNil)) (mCons (mSl false (mV 12) (some (mC (.int 1))) none) (mCons (m1 (revAOp false) (mV 12)) (mCons (mC .non) mNil))))))) s3 [o3] = .ok (.lst [.tup (l.map rowE), .tup (l.map rowE), .tup (l.map rowE), .lst (l.map rowE), .tup ((TB.cutD l (some 1) none).map rowE), .tup (l.reverse.map rowE), .non]) [o3] := by
      have q1 : mApp (listOp1 false) (mCons (mV 12) mNil) s3 [o3] = .ok (.lst (l.map rowE)) [o3] := (mApp_ok (mCons_ok (mV_ok c12) rfl)).trans (by simp [listOp1, sqOf, mkL])
      have q2 : mSl false (mV 12) (some (mC (.int 1))) none s3 [o3] = .ok (.tup ((TB.cutD l (some 1) none).map rowE)) [o3] := by
        unfold mSl
        rw [mV_ok c12]
        simp [mPart, mC, slOp, cut_map]
      have q3 : m1 (revAOp false) (mV 12) s3 [o3] = .ok (.tup (l.reverse.map rowE)) [o3] := by
        unfold m1
        rw [mV_ok c12]
        simp [revAOp, mkT]
      refine (mApp_ok (mCons_ok (mV_ok c12) (mCons_ok (mV_ok c12) (mCons_ok (mV_ok c12) (mCons_ok q1 (mCons_ok q2 (mCons_ok q3 (mCons_ok rfl rfl)))))))).trans (by simp)
    rw [OkS_then, OkS_asg, mCall_ok (mCons_ok (mV_ok c1) (mCons_ok e1 rfl)), pick_eq]
    have bent : ∀ z, z ∈ [D.tup (l.map rowE), .tup (l.map rowE), .tup (l.map rowE), .lst (l.map rowE), .tup ((TB.cutD l (some 1) none).map rowE), .tup (l.reverse.map rowE), .non] → Bent z ∧ Pv 5 z := fun z hz => by
      simp only [List.mem_cons, List.not_mem_nil, or_false] at hz
      have gc : Good (TB.cutD l (some 1) none) := gl.sub (fun e he => cut_mem he) (TB.cut_len _ _ _)
      have gr : Good l.reverse := gl.sub (fun e he => List.mem_reverse.mp he) (by simp)
      rcases hz with rfl | rfl | rfl | rfl | rfl | rfl | rfl
      · exact ⟨.inl ⟨_, gl, rfl⟩, tupE_pv gl⟩
      · exact ⟨.inl ⟨_, gl, rfl⟩, tupE_pv gl⟩
      · exact ⟨.inl ⟨_, gl, rfl⟩, tupE_pv gl⟩
      · exact ⟨.inr (.inl ⟨_, gl, rfl⟩), lstE_pv gl⟩
      · exact ⟨.inl ⟨_, gc, rfl⟩, tupE_pv gc⟩
      · exact ⟨.inl ⟨_, gr, rfl⟩, tupE_pv gr⟩
      · exact ⟨.inr (.inr rfl), .non _⟩
    refine pick_okv (k := 5) ho3 (fun z hz => (bent z hz).2) (by simp) (by simp) fun x o4 ho4 hx _ => ?_
    rw [gN_ok, Okv_ok, OkS_if]
    obtain ⟨s4, hs4⟩ : ∃ s4, s4 = s3.set 12 (some x) := ⟨_, rfl⟩
    rw [← hs4]
    have f4 : Fr s0 s4 [11, 12] := by rw [hs4]; exact f3.set (by simp) _
    obtain ⟨B, eB1, eB2⟩ := bent_ok T hm (by omega) (bent x hx).1 (o := o4) (s := s4) (by rw [f4.at_ 4 (by simp)]; exact h4) (by rw [f4.at_ 8 (by simp)]; exact h8) (by rw [hs4, List.getElem?_set_self (by rw [f3.len]; omega)])
    have e5 : mCall (F_law_same 5) (mCons (mCall F_outcomes_right (mCons (mV 4) (mCons (mV 12) mNil))) (mCons (mAndV (mApp isiOp (mCons (mV 12) (mCons (mC (.ty "tuple")) mNil))) (mAndV (m2 eqOp (mV 12) (mV 8)) (mCall (F_law_same 5) (mCons (mV 12) (mCons (mV 8) mNil))))) mNil)) s4 [o4] = .ok (.bl true) [o4] := by
      rw [mCall_ok (mCons_ok eB1 (mCons_ok eB2 rfl)), same_eq]
      exact FSame_eq (.bl 4 B)
    rw [mNot_ok (mTru_ok e5), Okv_ok, if_neg (by simp), OkS_nil]
    exact ⟨f4, o4, rfl, ho4⟩
end
end G89
end

section
set_option Elab.async false
set_option linter.all false
set_option maxRecDepth 100000
set_option autoImplicit false
set_option maxHeartbeats 4000000
/-! W20: the law. -/
namespace G89
open PySem PySem.Spec PyProof.Rows L2 TB
theorem facts_e {ms : List Mv} (hm : ms.length ≤ 12) {s : Sl} {h : Hh} (s3 : s[3]? = some (some (.lst (ms.map mvD)))) (hl : 15 < s.length) :
    (m2 (addOp false) (mLc false (mIt (mV 3)) (gN 15) tYesM (mApp tupOp (mCons (mC (.str (Str.ofString "move"))) (mCons (mV 15) mNil))) [15]) (mApp (lstOp false) (mCons (mApp tupOp (mCons (mC (.str (Str.ofString "moved"))) (mCons (mApp tupOp (mCons (mC (.int 1)) (mCons (mC (.int 2)) mNil))) mNil))) (mCons (mApp tupOp (mCons (mC (.str (Str.ofString "a"))) (mCons (mApp tupOp mNil) mNil))) mNil)))) s h = .ok (.lst (fcsD ms)) h := by
  have e1 : mLc false (mIt (mV 3)) (gN 15) tYesM (mApp tupOp (mCons (mC (.str (Str.ofString "move"))) (mCons (mV 15) mNil))) [15] s h = .ok (.lst (ms.map fcD)) h := by
    rw [mLc_map (e := mvD) (l := ms) (f := fun m => some (fcD m)) (by simp [mIt, mV, s3, itOp])]
    · rw [fm_all]
    · intro m _
      have w := fun v => wip_at (v := v) hl
      simp [lcF, bnd, tYesM, mApp, mCons, mNil, mV, mC, w, fcD]
  have e2 : mApp (lstOp false) (mCons (mApp tupOp (mCons (mC (.str (Str.ofString "moved"))) (mCons (mApp tupOp (mCons (mC (.int 1)) (mCons (mC (.int 2)) mNil))) mNil))) (mCons (mApp tupOp (mCons (mC (.str (Str.ofString "a"))) (mCons (mApp tupOp mNil) mNil))) mNil)) s h = .ok (.lst restD) h := by
    simp [mApp, mCons, mNil, mC, restD]
  have lz : (1000 : Nat) ≤ sizeLine := by decide
  rw [m2_ok e1 e2, TB.add_lst, if_pos (by simp [restD]; omega)]
  rfl
theorem due_e {K L : List Key} {ks : List (Key × D)} {f : Key → Option Oc} (F : FD K ks f) (hL : ∀ p, p ∈ L → p ∈ K) {s : Sl} {h : Hh} (s6 : s[6]? = some (some (.dic ks))) (s7 : s[7]? = some (some (.lst (L.map keyD)))) (hl : 9 < s.length) :
    (mApp tupleOp (mCons (mLc false (mIt (mV 7)) (gN 9) tYesM (mApp tupOp (mCons (mV 9) (mCons (mMet .dic getOp (mV 6) (mCons (mV 9) (mCons (mApp tupOp (mCons (mC (.str (Str.ofString "draw"))) mNil)) mNil))) mNil))) [9]) mNil)) s h = .ok (.tup (rowsD f L)) h := by
  have e1 : mLc false (mIt (mV 7)) (gN 9) tYesM (mApp tupOp (mCons (mV 9) (mCons (mMet .dic getOp (mV 6) (mCons (mV 9) (mCons (mApp tupOp (mCons (mC (.str (Str.ofString "draw"))) mNil)) mNil))) mNil))) [9] s h = .ok (.lst (rowsD f L)) h := by
    rw [mLc_map (e := keyD) (l := L) (f := fun p => some (.tup [keyD p, odD (f p)])) (by simp [mIt, mV, s7, itOp])]
    · rw [fm_all]
      rfl
    · intro p hp
      have w := fun v => wip_at (v := v) hl
      have w6 : ((wip s [9]).set 9 (some (keyD p)))[6]? = some (some (.dic ks)) := by
        rw [List.getElem?_set_ne (by decide)]
        simp only [wip]
        rw [List.getElem?_set_ne (by decide)]
        exact s6
      have i1 : isTy .dic h (.dic ks) = true := by simp [isTy, kin]
      have eg : mMet .dic getOp (mV 6) (mCons (mV 9) (mCons (mApp tupOp (mCons (mC (.str (Str.ofString "draw"))) mNil)) mNil)) ((wip s [9]).set 9 (some (keyD p))) h = .ok (odD (f p)) h := by
        have hm := mCons_ok (mV_ok (h := h) (w (some (keyD p)))) (mCons_ok (draw_e (s := (wip s [9]).set 9 (some (keyD p))) (h := h)) (rfl : mNil _ h = .ok [] h))
        unfold mMet
        rw [mV_ok w6]
        simp only [Res.bind_ok, i1, if_true]
        rw [hm]
        exact fi_getd F.fi (hL p hp)
      have et := (mApp_ok (g := tupOp) (mCons_ok (mV_ok (h := h) (w (some (keyD p)))) (mCons_ok eg (rfl : mNil _ h = .ok [] h)))).trans (show _ = Res.ok (D.tup [keyD p, odD (f p)]) h by simp)
      unfold lcF
      simp only [gN_ok, bnd, tYesM, if_true]
      rw [et]
  exact (mApp_ok (mCons_ok e1 rfl)).trans (by simp)
section
variable {ms : List Mv} {t : Tb}
theorem rows_sm (f : Key → Option Oc) {L : List Key} (hL : L.length ≤ 100) : Sm 5 (.tup (rowsD f L)) := by
  rw [rows_rowE]
  exact tupE_sm (k := 2) (by rw [List.length_map]; omega) fun e he => by
    obtain ⟨p, _, rfl⟩ := List.mem_map.mp he
    exact od_sm _ 1
/-- the first tests -/
theorem test1_ok (T : IsTb ms t) (hm : ms.length ≤ 12) (hK : (kys t).length ≤ 50) {s : Sl} {o : Ob} (s4 : s[4]? = some (some (.lst (fcsD ms)))) (s8 : s[8]? = some (some (.tup (rowsD (fin_ (adj ms) (kys t)) (srt kyD (kys t)))))) :
    (mOr (mNot (mTru (mCall (F_law_same 5) (mCons (mCall F_outcomes (mCons (mV 4) mNil)) (mCons (mV 8) mNil))))) (mB (m2 (isOp true) (mCall F_outcomes_right (mCons (mV 4) (mCons (mV 8) mNil))) (mC (.bl true))))) s [o] = .ok false [o] := by
  have dsm := rows_sm (fin_ (adj ms) (kys t)) (L := srt kyD (kys t)) (by rw [srt_len]; omega)
  have c1 : mCall F_outcomes (mCons (mV 4) mNil) s [o] = .ok (.tup (rowsD (fin_ (adj ms) (kys t)) (srt kyD (kys t)))) [o] := by
    rw [mCall_ok (mCons_ok (mV_ok s4) rfl)]
    exact call_pv (fun d hd => by simp at hd; subst hd; exact ⟨3, .lst _ _ (fcs_pv ms)⟩) (outcomes_ok T hm) dsm.pv
  have c2 : mCall (F_law_same 5) (mCons (mCall F_outcomes (mCons (mV 4) mNil)) (mCons (mV 8) mNil)) s [o] = .ok (.bl true) [o] := by
    rw [mCall_ok (mCons_ok c1 (mCons_ok (mV_ok s8) rfl)), same_eq]
    exact FSame_eq dsm
  obtain ⟨B, e, iB⟩ := right_ok T hm (l := (srt kyD (kys t)).map fun p => (p, odD (fin_ (adj ms) (kys t) p))) (k := 3) (by omega) fun e he => by
    obtain ⟨p, _, rfl⟩ := List.mem_map.mp he
    exact od_pv _ 2
  rw [← rows_rowE] at e
  have hB := iB.mpr rfl
  subst hB
  have c3 : mCall F_outcomes_right (mCons (mV 4) (mCons (mV 8) mNil)) s [o] = .ok (.bl true) [o] := by
    rw [mCall_ok (mCons_ok (mV_ok s4) (mCons_ok (mV_ok s8) rfl))]
    exact call_pv (fun d hd => by
      simp at hd
      rcases hd with rfl | rfl
      · exact ⟨3, .lst _ _ (fcs_pv ms)⟩
      · exact ⟨_, dsm.pv⟩) e (.bl 0 _)
  rw [or_ok2 (mNot_ok (mTru_ok c2))]
  simp only [Bool.not_true, Bool.false_eq_true, if_false]
  exact mB_ok ((m2_ok c3 rfl).trans (by simp [isOp]))
theorem goods_ok (T : IsTb ms t) (hm : ms.length ≤ 12) (hK : t.length ≤ 50) {ks : List (Key × D)} (F : FD (kys t) ks (fin_ (adj ms) (kys t))) {p : Key} (hp : p ∈ kys t) {s : Sl} {o : Ob} (s4 : s[4]? = some (some (.lst (fcsD ms)))) (s5 : s[5]? = some (some (tbD t))) (s6 : s[6]? = some (some (.dic ks))) (s9 : s[9]? = some (some (keyD p))) :
    (mNot (mTru (mCall (F_law_same 5) (mCons (mCall F_good_moves (mCons (mV 4) (mCons (mV 9) mNil))) (mCons (mCall F_law_good (mCons (mV 5) (mCons (mV 6) (mCons (mV 9) mNil)))) mNil))))) s [o] = .ok false [o] := by
  obtain ⟨qs, nd, hq, srtd, e1⟩ := good_moves_ok hm ((T.ks p).mp hp)
  obtain ⟨rs, nd2, hr, e2⟩ := law_good_call T (by omega) F hp
  have hs : srt kyD rs = qs := by
    rw [key_sort.perm (perm_mem nd2 nd fun a => (hr a).trans (hq a).symm)]
    exact key_sort.id srtd
  have c1 : mCall F_good_moves (mCons (mV 4) (mCons (mV 9) mNil)) s [o] = .ok (.tup ((qs.filter (goodB (fin_ (adj ms) (kys t)) p)).map keyD)) [o] := by
    rw [mCall_ok (mCons_ok (mV_ok s4) (mCons_ok (mV_ok s9) rfl))]
    refine call_pv (j := 1) (fun d hd => by
      simp at hd
      rcases hd with rfl | rfl
      · exact ⟨3, .lst _ _ (fcs_pv ms)⟩
      · exact ⟨_, key_pv p 0⟩) (e1 t T) (.tup _ _ fun x hx => ?_)
    obtain ⟨k, _, rfl⟩ := List.mem_map.mp hx
    exact key_pv k 0
  have c2 : mCall F_law_good (mCons (mV 5) (mCons (mV 6) (mCons (mV 9) mNil))) s [o] = .ok (.tup ((qs.filter (goodB (fin_ (adj ms) (kys t)) p)).map keyD)) [o] := by
    rw [mCall_ok (mCons_ok (mV_ok s5) (mCons_ok (mV_ok s6) (mCons_ok (mV_ok s9) rfl))), e2, hs]
  have hql : qs.length ≤ 50 := by
    have := List.Nodup.length_le_of_subset nd (l₂ := kys t) fun q h => T.cl p hp q ((hq q).mp h)
    rw [List.length_map] at this
    omega
  have sm : Sm 5 (.tup ((qs.filter (goodB (fin_ (adj ms) (kys t)) p)).map keyD)) := .tup 4 _ (by
    have := List.length_filter_le (goodB (fin_ (adj ms) (kys t)) p) qs
    simp
    omega) fun x hx => by
      obtain ⟨k, _, rfl⟩ := List.mem_map.mp hx
      exact key_sm k 3
  have c3 : mCall (F_law_same 5) (mCons (mCall F_good_moves (mCons (mV 4) (mCons (mV 9) mNil))) (mCons (mCall F_law_good (mCons (mV 5) (mCons (mV 6) (mCons (mV 9) mNil)))) mNil)) s [o] = .ok (.bl true) [o] := by
    rw [mCall_ok (mCons_ok c1 (mCons_ok c2 rfl)), same_eq]
    exact FSame_eq sm
  exact mNot_ok (mTru_ok c3)
theorem ne_same {x : D} {k : Nat} (p : Pv k x) (hk : k ≤ 50) (h : Hh) : neOp x x h = .ok (.bl false) h := by
  unfold neOp
  rw [rd_pv p, p.ok (by omega), eqv_refl x p]
  rfl
theorem worth_ok (T : IsTb ms t) (hK : t.length ≤ 50) {ks : List (Key × D)} (F : FD (kys t) ks (fin_ (adj ms) (kys t))) {p : Key} (hp : p ∈ kys t) {s : Sl} {o : Ob} (s5 : s[5]? = some (some (tbD t))) (s6 : s[6]? = some (some (.dic ks))) (s9 : s[9]? = some (some (keyD p))) :
    (mAnd (mB (m2 (inOp false) (mV 9) (mV 6))) (mAnd (mB (m2 neOp (mCall (F_law_worth 8) (mCons (mV 5) (mCons (mV 9) (mCons (mApp min2Op (mCons (m2 ixOp (m2 ixOp (mV 6) (mV 9)) (mC (.int 1))) (mCons (mC (.int 6)) mNil))) mNil)))) (m2 ixOp (mV 6) (mV 9)))) (mB (m2 ltOp (m2 ixOp (m2 ixOp (mV 6) (mV 9)) (mC (.int 1))) (mC (.int 7)))))) s [o] = .ok false [o] := by
  have c1 : mB (m2 (inOp false) (mV 9) (mV 6)) s [o] = .ok (fin_ (adj ms) (kys t) p).isSome [o] := mB_ok ((m2_ok (mV_ok s9) (mV_ok s6)).trans (by rw [fd_in F.fi hp]; simp))
  rw [and_ok c1]
  cases hf : fin_ (adj ms) (kys t) p with
  | none => rfl
  | some v =>
    obtain ⟨b, d⟩ := v
    rw [if_pos (show (some (b, d) : Option Oc).isSome = true from rfl)]
    have e1 : m2 ixOp (mV 6) (mV 9) s [o] = .ok (ocD (b, d)) [o] := (m2_ok (mV_ok s6) (mV_ok s9)).trans (fd_ix F.fi hp hf)
    have e2 : m2 ixOp (m2 ixOp (mV 6) (mV 9)) (mC (.int 1)) s [o] = .ok (.int (d : Nat)) [o] := (m2_ok e1 rfl).trans oc_1
    have e3 : mApp min2Op (mCons (m2 ixOp (m2 ixOp (mV 6) (mV 9)) (mC (.int 1))) (mCons (mC (.int 6)) mNil)) s [o] = .ok (.int (min d 6 : Nat)) [o] := by
      refine (mApp_ok (mCons_ok e2 (mCons_ok rfl rfl))).trans ?_
      simp only [min2Op]
      congr 2
      split <;> omega
    have e4 : mCall (F_law_worth 8) (mCons (mV 5) (mCons (mV 9) (mCons (mApp min2Op (mCons (m2 ixOp (m2 ixOp (mV 6) (mV 9)) (mC (.int 1))) (mCons (mC (.int 6)) mNil))) mNil))) s [o] = .ok (eD (val (adj ms) (min d 6 + 1)) p) [o] := by
      rw [mCall_ok (mCons_ok (mV_ok s5) (mCons_ok (mV_ok s9) (mCons_ok e3 rfl)))]
      exact law_worth_call T (by omega) (by omega) hp _
    have e5 : ∃ b2, mB (m2 neOp (mCall (F_law_worth 8) (mCons (mV 5) (mCons (mV 9) (mCons (mApp min2Op (mCons (m2 ixOp (m2 ixOp (mV 6) (mV 9)) (mC (.int 1))) (mCons (mC (.int 6)) mNil))) mNil)))) (m2 ixOp (mV 6) (mV 9))) s [o] = .ok b2 [o] ∧ (d < 7 → b2 = false) := by
      have hne : neOp (eD (val (adj ms) (min d 6 + 1)) p) (ocD (b, d)) [o] = .ok (.bl (!eqv (eD (val (adj ms) (min d 6 + 1)) p) (ocD (b, d)))) [o] := by
        unfold neOp
        rw [rd_pv (eD_pv _ p 0), rd_pv (oc_pv (b, d) 0), (eD_pv _ p 0).ok (by decide), (oc_pv (b, d) 0).ok (by decide)]
        rfl
      refine ⟨_, mB_ok ((m2_ok e4 e1).trans hne), fun h7 => ?_⟩
      have hm : min d 6 = d := by omega
      rw [hm]
      have hv := (fin_at (adj ms) (kys t) T.cl hp).mp hf
      have : eD (val (adj ms) (d + 1)) p = ocD (b, d) := by
        unfold eD
        rw [hv]
      rw [this, eqv_refl _ (oc_pv (b, d) 0)]
      rfl
    obtain ⟨b2, e6, e7⟩ := e5
    rw [and_ok e6]
    by_cases hb : b2 = true
    · rw [if_pos hb]
      have : ¬ d < 7 := fun z => by rw [e7 z] at hb; cases hb
      exact mB_ok ((m2_ok e2 rfl).trans (by rw [TB.lt_int, decide_eq_false (by omega)]))
    · rw [if_neg hb]
end
end G89
end

section
set_option Elab.async false
set_option linter.all false
set_option maxRecDepth 100000
set_option autoImplicit false
set_option maxHeartbeats 8000000
/-! W21: the law, all of it. -/
namespace G89
open PySem PySem.Spec PyProof.Rows L2 TB
/-- a for-loop whose body never leaves -/
theorem for_ok' {im : IM} {g : GM} {f : SM} {xs : List D} {s : Sl} {h h0 : Hh} {N B C : Sl → Hh → Prop} {R : D → Hh → Prop} (hi : im s h = .ok (xs, none) h0) (I : Sl → Hh → Prop) (h1 : I s h0)
    (st : ∀ x s h, x ∈ xs → I s h → Okv (g x s h) fun s1 h1 => OkS (f s1 h1) I (fun _ _ => False) (fun _ _ => False) (fun _ _ => False)) (he : ∀ s h, I s h → N s h) : OkS (sFor im g f s h) N R B C :=
  for_ok hi (fun _ => I) h1 (fun i x s h hx hI => Okv.mono (st x s h (List.mem_of_getElem? hx) hI) fun s1 h1 o => OkS.mono o (fun _ _ z => z) (fun _ _ z => z.elim) (fun _ _ z => z.elim) (fun _ _ z => z.elim)) he
theorem law_body (ns : List Int) : Okv (F_law [.scr ns] []) fun v h => v = .bl true := by
  unfold F_law
  refine callF_ok ?_
  unfold m_law
  obtain ⟨o, e0, ho⟩ := draws_ok ns
  obtain ⟨s, hs⟩ : ∃ s : Sl, s = startD 16 [.scr ns] := ⟨_, rfl⟩
  rw [← hs]
  have z0 : s[0]? = some (some (.scr ns)) := by rw [hs]; rfl
  have hl : s.length = 16 := by rw [hs]; simp [startD]
  rw [OkS_then, OkS_asg, mCall_ok (mCons_ok (mV_ok z0) rfl), draws_eq, e0, Okv_ok, gN_ok, Okv_ok, OkS_then, OkS_asg]
  have hs1 : s.set 1 (some (.ref 0)) = [some (.scr ns), some (.ref 0), none, none, none, none, none, none, none, none, none, none, none, none, none, none] := by rw [hs]; rfl
  rw [hs1]
  refine places_okv ho fun vs o1 ho1 hv0 hv7 => ?_
  rw [gN_ok, Okv_ok, OkS_then, OkS_asg]
  simp only [List.set_cons_zero, List.set_cons_succ]
  refine moves_okv ho1 hv0 hv7 fun ms0 o2 ho2 hm0 hin0 => ?_
  rw [gN_ok, Okv_ok, OkS_then]
  simp only [List.set_cons_zero, List.set_cons_succ]
  refine OkS.mono (N := fun s h => ∃ (ms : List Mv) (o' : Ob) (o11 o13 o14 : Option D), s = [some (.scr ns), some (.ref 0), some (ksD vs), some (.lst (ms.map mvD)), none, none, none, none, none, none, none, o11, none, o13, o14, none] ∧ h = [o'] ∧ DrOk o' ∧ ms.length ≤ 12) (R := fun _ _ => False) (B := fun _ _ => False) (C := fun _ _ => False) ?_ ?_ (fun _ _ z => z.elim) (fun _ _ z => z.elim) (fun _ _ z => z.elim)
  · rw [OkS_if]
    obtain ⟨n, o3, e3, ho3, _, _⟩ := draw_ok (rest := []) ho2 (show (0 : Int) < 2 by decide) (by decide)
    have e4 : mCall F_law_draw (mCons (mV 1) (mCons (mC (.int 2)) mNil)) [some (.scr ns), some (.ref 0), some (ksD vs), some (.lst (ms0.map mvD)), none, none, none, none, none, none, none, none, none, none, none, none] [o2] = .ok (.int n) [o3] := by
      rw [mCall_ok (mCons_ok (mV_ok rfl) (mCons_ok rfl rfl)), draw_eq]
      exact e3
    rw [mB_ok ((m2_ok e4 rfl).trans TB.eq_int), Okv_ok]
    by_cases hn : (n == 0) = true
    · rw [if_pos hn, OkS_asg]
      refine less_okv ho3 hin0 hm0 fun ms o4 ho4 hm hin => ?_
      rw [gN_ok, Okv_ok]
      exact ⟨ms, o4, none, none, none, rfl, rfl, ho4, hm⟩
    · rw [if_neg hn, OkS_nil]
      exact ⟨ms0, o3, none, none, none, rfl, rfl, ho3, hm0⟩
  · rintro s h ⟨ms, o, o11, o13, o14, hs, rfl, ho, hm⟩
    have s3 : s[3]? = some (some (.lst (ms.map mvD))) := by rw [hs]; rfl
    have sl : s.length = 16 := by rw [hs]; rfl
    rw [OkS_then, OkS_asg, facts_e hm s3 (by omega), Okv_ok, gN_ok, Okv_ok, OkS_then, OkS_asg]
    obtain ⟨t, T, tl, eT⟩ := law_table_ok ms (by omega)
    obtain ⟨ks, eF, F⟩ := law_outcomes_ok T (by omega)
    have kl : (kys t).length = t.length := by simp [kys]
    obtain ⟨s1, hs1⟩ : ∃ s1, s1 = s.set 4 (some (.lst (fcsD ms))) := ⟨_, rfl⟩
    rw [← hs1]
    have a3 : s1[3]? = some (some (.lst (ms.map mvD))) := by rw [hs1, hs]; rfl
    have cT : mCall F_law_table (mCons (mV 3) mNil) s1 [o] = .ok (tbD t) [o] := by
      rw [mCall_ok (mCons_ok (mV_ok a3) rfl)]
      exact call_low (fun d hd => by
        simp at hd
        subst hd
        exact ⟨(Pv.lst 1 _ fun x hx => by
          obtain ⟨m, _, rfl⟩ := List.mem_map.mp hx
          exact mv_pv m 0).low 0, fun n z => by cases z⟩) eT (tb_low t) fun n z => by cases z
    rw [cT, Okv_ok, gN_ok, Okv_ok, OkS_then, OkS_asg]
    obtain ⟨s2, hs2⟩ : ∃ s2, s2 = s1.set 5 (some (tbD t)) := ⟨_, rfl⟩
    rw [← hs2]
    have b5 : s2[5]? = some (some (tbD t)) := by rw [hs2, hs1, hs]; rfl
    have cF : mCall F_law_outcomes (mCons (mV 5) mNil) s2 [o] = .ok (.dic ks) [o] := by
      rw [mCall_ok (mCons_ok (mV_ok b5) rfl)]
      exact call_low (fun d hd => by
        simp at hd
        subst hd
        exact ⟨tb_low t, fun n z => by cases z⟩) eF F.low fun n z => by cases z
    rw [cF, Okv_ok, gN_ok, Okv_ok, OkS_then, OkS_asg]
    obtain ⟨s3', hs3⟩ : ∃ s3, s3 = s2.set 6 (some (.dic ks)) := ⟨_, rfl⟩
    rw [← hs3]
    have c5 : s3'[5]? = some (some (tbD t)) := by rw [hs3, hs2, hs1, hs]; rfl
    have eS : mApp (sortKOp false F_law_key) (mCons (mV 5) mNil) s3' [o] = .ok (.lst ((srt kyD (kys t)).map keyD)) [o] := by
      rw [mApp_ok (mCons_ok (mV_ok c5) rfl), law_key_eq, key_sort.sorted (tb_col t [o]) false]
      rfl
    rw [eS, Okv_ok, gN_ok, Okv_ok, OkS_then, OkS_asg]
    obtain ⟨s4, hs4⟩ : ∃ s4, s4 = s3'.set 7 (some (.lst ((srt kyD (kys t)).map keyD))) := ⟨_, rfl⟩
    rw [← hs4]
    have d6 : s4[6]? = some (some (.dic ks)) := by rw [hs4, hs3, hs2, hs1, hs]; rfl
    have d7 : s4[7]? = some (some (.lst ((srt kyD (kys t)).map keyD))) := by rw [hs4, hs3, hs2, hs1, hs]; rfl
    have dl : s4.length = 16 := by rw [hs4, hs3, hs2, hs1, hs]; rfl
    rw [due_e F (fun p hp => (srt_mem kyD).mp hp) d6 d7 (by omega), Okv_ok, gN_ok, Okv_ok, OkS_then, OkS_if]
    obtain ⟨s5, hs5⟩ : ∃ s5, s5 = s4.set 8 (some (.tup (rowsD (fin_ (adj ms) (kys t)) (srt kyD (kys t))))) := ⟨_, rfl⟩
    rw [← hs5]
    have g1 : s5[1]? = some (some (.ref 0)) := by rw [hs5, hs4, hs3, hs2, hs1, hs]; rfl
    have g3 : s5[3]? = some (some (.lst (ms.map mvD))) := by rw [hs5, hs4, hs3, hs2, hs1, hs]; rfl
    have g4 : s5[4]? = some (some (.lst (fcsD ms))) := by rw [hs5, hs4, hs3, hs2, hs1, hs]; rfl
    have g5 : s5[5]? = some (some (tbD t)) := by rw [hs5, hs4, hs3, hs2, hs1, hs]; rfl
    have g6 : s5[6]? = some (some (.dic ks)) := by rw [hs5, hs4, hs3, hs2, hs1, hs]; rfl
    have g7 : s5[7]? = some (some (.lst ((srt kyD (kys t)).map keyD))) := by rw [hs5, hs4, hs3, hs2, hs1, hs]; rfl
    have g8 : s5[8]? = some (some (.tup (rowsD (fin_ (adj ms) (kys t)) (srt kyD (kys t))))) := by rw [hs5, hs4, hs3, hs2, hs1, hs]; rfl
    have gl : s5.length = 16 := by rw [hs5, hs4, hs3, hs2, hs1, hs]; rfl
    rw [test1_ok T hm (by omega) g4 g8, Okv_ok, if_neg Bool.false_ne_true, OkS_nil, OkS_then]
    have F9 : ∀ {s' : Sl} {js : List Nat}, Fr s5 s' js → ∀ j, j ∉ js → ∀ {x}, s5[j]? = some x → s'[j]? = some x := fun {s' js} f j hj {x} e => by rw [f.at_ j hj]; exact e
    refine for_ok' (xs := (srt kyD (kys t)).map keyD) (h0 := [o]) (by simp [mIt, mV, g7, itOp]) (fun s' h => Fr s5 s' [9] ∧ h = [o]) ⟨Fr.refl _ _, rfl⟩ ?_ ?_
    · rintro x s' h hx ⟨f, rfl⟩
      obtain ⟨p, hp, rfl⟩ := List.mem_map.mp hx
      have hpk := (srt_mem kyD).mp hp
      rw [gN_ok, Okv_ok, OkS_if]
      have f' := f.set (j := 9) (by simp) (some (keyD p))
      rw [goods_ok T hm (by omega) F hpk (F9 f' 4 (by simp) g4) (F9 f' 5 (by simp) g5) (F9 f' 6 (by simp) g6) (by rw [List.getElem?_set_self (by rw [f.len]; omega)]), Okv_ok, if_neg Bool.false_ne_true, OkS_nil]
      exact ⟨f', rfl⟩
    · rintro s6 h ⟨f6, rfl⟩
      rw [OkS_then]
      refine OkS.mono (N := fun s' h => Fr s5 s' [9] ∧ h = [o]) (R := fun _ _ => False) (B := fun _ _ => False) (C := fun _ _ => False) ?_ ?_ (fun _ _ z => z.elim) (fun _ _ z => z.elim) (fun _ _ z => z.elim)
      · rw [OkS_if]
        have e7 : mB (m2 ltOp (mApp lenOp (mCons (mV 3) mNil)) (mC (.int 7))) s6 [o] = .ok (decide ((ms.length : Int) < 7)) [o] :=
          mB_ok ((m2_ok ((mApp_ok (mCons_ok (mV_ok (F9 f6 3 (by simp) g3)) rfl)).trans (len_lst)) rfl).trans (by rw [TB.lt_int, List.length_map]))
        rw [e7, Okv_ok]
        by_cases h7 : decide ((ms.length : Int) < 7) = true
        · rw [if_pos h7]
          have im : (mIt (mSl false (mV 7) none (some (mC (.int 3))))) s6 [o] = .ok ((TB.cutD (srt kyD (kys t)) none (some 3)).map keyD, none) [o] := by
            have : mSl false (mV 7) none (some (mC (.int 3))) s6 [o] = .ok (.lst ((TB.cutD (srt kyD (kys t)) none (some 3)).map keyD)) [o] := by
              unfold mSl
              rw [mV_ok (F9 f6 7 (by simp) g7)]
              simp [mPart, mC, slOp, lsOf, mkL, cut_map]
            unfold mIt
            rw [this]
            rfl
          refine for_ok' im (fun s' h => Fr s5 s' [9] ∧ h = [o]) ⟨f6, rfl⟩ ?_ (fun _ _ z => z)
          rintro x s' h hx ⟨f, rfl⟩
          obtain ⟨p, hp, rfl⟩ := List.mem_map.mp hx
          have hpk := (srt_mem kyD).mp (cut_mem hp)
          rw [gN_ok, Okv_ok, OkS_if]
          have f' := f.set (j := 9) (by simp) (some (keyD p))
          rw [worth_ok T (by omega) F hpk (F9 f' 5 (by simp) g5) (F9 f' 6 (by simp) g6) (by rw [List.getElem?_set_self (by rw [f.len]; omega)]), Okv_ok, if_neg Bool.false_ne_true, OkS_nil]
          exact ⟨f', rfl⟩
        · rw [if_neg h7, OkS_nil]
          exact ⟨f6, rfl⟩
      · rintro s7 h ⟨f7, rfl⟩
        rw [OkS_then]
        have up : ∀ {s' : Sl}, Fr s5 s' [9] → Fr s5 s' [9, 10, 11, 12] := fun f => ⟨f.len, fun i hi => f.at_ i fun z => hi (by simp at z; simp [z])⟩
        refine for_ok' (xs := rngD 0 ((4 : Nat) : Int)) (h0 := [o]) (mRng_ok (n := 4) rfl (by decide)) (fun s' h => Fr s5 s' [9, 10, 11, 12] ∧ ∃ o', h = [o'] ∧ DrOk o') ⟨up f7, o, rfl, ho⟩ ?_ ?_
        · rintro x s' h hx ⟨f, o', rfl, ho'⟩
          rw [gN_ok, Okv_ok]
          have f' := f.set (j := 10) (by simp) (some x)
          have tt := turn_ok T hm (by omega) (s0 := s'.set 10 (some x)) (by rw [List.length_set, f.len, gl]) (F9 f' 1 (by simp) g1) (F9 f' 4 (by simp) g4) (F9 f' 8 (by simp) g8) ho' (R := fun _ _ => False) (B := fun _ _ => False) (C := fun _ _ => False)
          refine OkS.mono tt (fun s2 h2 q => ?_) (fun _ _ z => z) (fun _ _ z => z) (fun _ _ z => z)
          obtain ⟨q1, q2⟩ := q
          exact ⟨⟨q1.len.trans f'.len, fun i hi => (q1.at_ i fun z => hi (by simp at z; rcases z with rfl | rfl <;> simp)).trans (f'.at_ i hi)⟩, q2⟩
        · rintro s8 h ⟨f8, o8, rfl, ho8⟩
          rw [OkS_ret]
          simp [mC, fin, frzD]
theorem pure_law (ns : List Int) (_ : ns.length ≤ 63) : ∃ h', F_law [.scr ns] [] = .ok (.bl true) h' := by
  obtain ⟨v, h, e, rfl⟩ := law_body ns
  exact ⟨h, e⟩
end G89
end

section
set_option Elab.async false
set_option maxRecDepth 100000
set_option maxHeartbeats 4000000
namespace G89
open PySem PySem.Spec PyProof.Rows L2 TB
theorem all_mk {l : PySem.W.OpenLaw} {w : World} {K : PySem.W.Frag} {h : Heap} {mg : Str → Option Value} {fa p_law_draws p_law_draw p_law_pick p_law_table p_law_outcomes p_law_key p_law_same p_value_key p_pair_key p_moves_of p_is_end p_place_right p_outcomes_right p_settled p_outcomes p_good_moves p_law_good p_law_worth p_law : Addr} (X : K.In h) (G : h.Ns mainGlobals mg) (hfa : mg "law" = some (.ref fa))
    {od0 an0 od1 an1 od2 an2 od3 an3 od4 an4 od5 an5 od6 an6 od7 an7 od8 an8 od9 an9 od10 an10 od11 an11 od12 an12 od13 an13 od14 an14 od15 an15 od16 an16 od17 an17 od18 an18 : Option Addr} {sl0 sl1 sl2 sl3 sl4 sl5 sl6 sl7 sl8 sl9 sl10 sl11 sl12 sl13 sl14 sl15 sl16 sl17 sl18 : Array (Option Value)} {oc0 kV0 dc0 pm0 cd0 ct0 oc1 kV1 dc1 pm1 cd1 ct1 oc2 kV2 dc2 pm2 cd2 ct2 oc3 kV3 dc3 pm3 cd3 ct3 oc4 kV4 dc4 pm4 cd4 ct4 oc5 kV5 dc5 pm5 cd5 ct5 oc6 kV6 dc6 pm6 cd6 ct6 oc7 kV7 dc7 pm7 cd7 ct7 oc8 kV8 dc8 pm8 cd8 ct8 oc9 kV9 dc9 pm9 cd9 ct9 oc10 kV10 dc10 pm10 cd10 ct10 oc11 kV11 dc11 pm11 cd11 ct11 oc12 kV12 dc12 pm12 cd12 ct12 oc13 kV13 dc13 pm13 cd13 ct13 oc14 kV14 dc14 pm14 cd14 ct14 oc15 kV15 dc15 pm15 cd15 ct15 oc16 kV16 dc16 pm16 cd16 ct16 oc17 kV17 dc17 pm17 cd17 ct17 oc18 kV18 dc18 pm18 cd18 ct18 : Value}
    (a0 : PySem.W.nsIn K mainGlobals "_law_draws" = some (some (.ref p_law_draws))) (l0 : K.lookup p_law_draws = some ⟨oc0, od0, .func (PySem.W.fnOf "_law_draws" "_law_draws" (defArgs s_law_draws) (defBody s_law_draws) (defScope s_law_draws) .none kV0 dc0 pm0 an0 cd0 ct0), sl0⟩) (c0 : PySem.W.codeIn K cd0 "_law_draws" = true) (k0 : PySem.W.keepIn K (.ref p_law_draws) = true)
    (a1 : PySem.W.nsIn K mainGlobals "_law_draw" = some (some (.ref p_law_draw))) (l1 : K.lookup p_law_draw = some ⟨oc1, od1, .func (PySem.W.fnOf "_law_draw" "_law_draw" (defArgs s_law_draw) (defBody s_law_draw) (defScope s_law_draw) .none kV1 dc1 pm1 an1 cd1 ct1), sl1⟩) (c1 : PySem.W.codeIn K cd1 "_law_draw" = true) (k1 : PySem.W.keepIn K (.ref p_law_draw) = true)
    (a2 : PySem.W.nsIn K mainGlobals "_law_pick" = some (some (.ref p_law_pick))) (l2 : K.lookup p_law_pick = some ⟨oc2, od2, .func (PySem.W.fnOf "_law_pick" "_law_pick" (defArgs s_law_pick) (defBody s_law_pick) (defScope s_law_pick) .none kV2 dc2 pm2 an2 cd2 ct2), sl2⟩) (c2 : PySem.W.codeIn K cd2 "_law_pick" = true) (k2 : PySem.W.keepIn K (.ref p_law_pick) = true)
    (a3 : PySem.W.nsIn K mainGlobals "_law_table" = some (some (.ref p_law_table))) (l3 : K.lookup p_law_table = some ⟨oc3, od3, .func (PySem.W.fnOf "_law_table" "_law_table" (defArgs s_law_table) (defBody s_law_table) (defScope s_law_table) .none kV3 dc3 pm3 an3 cd3 ct3), sl3⟩) (c3 : PySem.W.codeIn K cd3 "_law_table" = true) (k3 : PySem.W.keepIn K (.ref p_law_table) = true)
    (a4 : PySem.W.nsIn K mainGlobals "_law_outcomes" = some (some (.ref p_law_outcomes))) (l4 : K.lookup p_law_outcomes = some ⟨oc4, od4, .func (PySem.W.fnOf "_law_outcomes" "_law_outcomes" (defArgs s_law_outcomes) (defBody s_law_outcomes) (defScope s_law_outcomes) .none kV4 dc4 pm4 an4 cd4 ct4), sl4⟩) (c4 : PySem.W.codeIn K cd4 "_law_outcomes" = true) (k4 : PySem.W.keepIn K (.ref p_law_outcomes) = true)
    (a5 : PySem.W.nsIn K mainGlobals "_law_key" = some (some (.ref p_law_key))) (l5 : K.lookup p_law_key = some ⟨oc5, od5, .func (PySem.W.fnOf "_law_key" "_law_key" (defArgs s_law_key) (defBody s_law_key) (defScope s_law_key) .none kV5 dc5 pm5 an5 cd5 ct5), sl5⟩) (c5 : PySem.W.codeIn K cd5 "_law_key" = true) (k5 : PySem.W.keepIn K (.ref p_law_key) = true)
    (a6 : PySem.W.nsIn K mainGlobals "_law_same" = some (some (.ref p_law_same))) (l6 : K.lookup p_law_same = some ⟨oc6, od6, .func (PySem.W.fnOf "_law_same" "_law_same" (defArgs s_law_same) (defBody s_law_same) (defScope s_law_same) .none kV6 dc6 pm6 an6 cd6 ct6), sl6⟩) (c6 : PySem.W.codeIn K cd6 "_law_same" = true) (k6 : PySem.W.keepIn K (.ref p_law_same) = true)
    (a7 : PySem.W.nsIn K mainGlobals "value_key" = some (some (.ref p_value_key))) (l7 : K.lookup p_value_key = some ⟨oc7, od7, .func (PySem.W.fnOf "value_key" "value_key" (defArgs s_value_key) (defBody s_value_key) (defScope s_value_key) .none kV7 dc7 pm7 an7 cd7 ct7), sl7⟩) (c7 : PySem.W.codeIn K cd7 "value_key" = true) (k7 : PySem.W.keepIn K (.ref p_value_key) = true)
    (a8 : PySem.W.nsIn K mainGlobals "pair_key" = some (some (.ref p_pair_key))) (l8 : K.lookup p_pair_key = some ⟨oc8, od8, .func (PySem.W.fnOf "pair_key" "pair_key" (defArgs s_pair_key) (defBody s_pair_key) (defScope s_pair_key) .none kV8 dc8 pm8 an8 cd8 ct8), sl8⟩) (c8 : PySem.W.codeIn K cd8 "pair_key" = true) (k8 : PySem.W.keepIn K (.ref p_pair_key) = true)
    (a9 : PySem.W.nsIn K mainGlobals "moves_of" = some (some (.ref p_moves_of))) (l9 : K.lookup p_moves_of = some ⟨oc9, od9, .func (PySem.W.fnOf "moves_of" "moves_of" (defArgs s_moves_of) (defBody s_moves_of) (defScope s_moves_of) .none kV9 dc9 pm9 an9 cd9 ct9), sl9⟩) (c9 : PySem.W.codeIn K cd9 "moves_of" = true) (k9 : PySem.W.keepIn K (.ref p_moves_of) = true)
    (a10 : PySem.W.nsIn K mainGlobals "is_end" = some (some (.ref p_is_end))) (l10 : K.lookup p_is_end = some ⟨oc10, od10, .func (PySem.W.fnOf "is_end" "is_end" (defArgs s_is_end) (defBody s_is_end) (defScope s_is_end) .none kV10 dc10 pm10 an10 cd10 ct10), sl10⟩) (c10 : PySem.W.codeIn K cd10 "is_end" = true) (k10 : PySem.W.keepIn K (.ref p_is_end) = true)
    (a11 : PySem.W.nsIn K mainGlobals "place_right" = some (some (.ref p_place_right))) (l11 : K.lookup p_place_right = some ⟨oc11, od11, .func (PySem.W.fnOf "place_right" "place_right" (defArgs s_place_right) (defBody s_place_right) (defScope s_place_right) .none kV11 dc11 pm11 an11 cd11 ct11), sl11⟩) (c11 : PySem.W.codeIn K cd11 "place_right" = true) (k11 : PySem.W.keepIn K (.ref p_place_right) = true)
    (a12 : PySem.W.nsIn K mainGlobals "outcomes_right" = some (some (.ref p_outcomes_right))) (l12 : K.lookup p_outcomes_right = some ⟨oc12, od12, .func (PySem.W.fnOf "outcomes_right" "outcomes_right" (defArgs s_outcomes_right) (defBody s_outcomes_right) (defScope s_outcomes_right) .none kV12 dc12 pm12 an12 cd12 ct12), sl12⟩) (c12 : PySem.W.codeIn K cd12 "outcomes_right" = true) (k12 : PySem.W.keepIn K (.ref p_outcomes_right) = true)
    (a13 : PySem.W.nsIn K mainGlobals "settled" = some (some (.ref p_settled))) (l13 : K.lookup p_settled = some ⟨oc13, od13, .func (PySem.W.fnOf "settled" "settled" (defArgs s_settled) (defBody s_settled) (defScope s_settled) .none kV13 dc13 pm13 an13 cd13 ct13), sl13⟩) (c13 : PySem.W.codeIn K cd13 "settled" = true) (k13 : PySem.W.keepIn K (.ref p_settled) = true)
    (a14 : PySem.W.nsIn K mainGlobals "outcomes" = some (some (.ref p_outcomes))) (l14 : K.lookup p_outcomes = some ⟨oc14, od14, .func (PySem.W.fnOf "outcomes" "outcomes" (defArgs s_outcomes) (defBody s_outcomes) (defScope s_outcomes) .none kV14 dc14 pm14 an14 cd14 ct14), sl14⟩) (c14 : PySem.W.codeIn K cd14 "outcomes" = true) (k14 : PySem.W.keepIn K (.ref p_outcomes) = true)
    (a15 : PySem.W.nsIn K mainGlobals "good_moves" = some (some (.ref p_good_moves))) (l15 : K.lookup p_good_moves = some ⟨oc15, od15, .func (PySem.W.fnOf "good_moves" "good_moves" (defArgs s_good_moves) (defBody s_good_moves) (defScope s_good_moves) .none kV15 dc15 pm15 an15 cd15 ct15), sl15⟩) (c15 : PySem.W.codeIn K cd15 "good_moves" = true) (k15 : PySem.W.keepIn K (.ref p_good_moves) = true)
    (a16 : PySem.W.nsIn K mainGlobals "_law_good" = some (some (.ref p_law_good))) (l16 : K.lookup p_law_good = some ⟨oc16, od16, .func (PySem.W.fnOf "_law_good" "_law_good" (defArgs s_law_good) (defBody s_law_good) (defScope s_law_good) .none kV16 dc16 pm16 an16 cd16 ct16), sl16⟩) (c16 : PySem.W.codeIn K cd16 "_law_good" = true) (k16 : PySem.W.keepIn K (.ref p_law_good) = true)
    (a17 : PySem.W.nsIn K mainGlobals "_law_worth" = some (some (.ref p_law_worth))) (l17 : K.lookup p_law_worth = some ⟨oc17, od17, .func (PySem.W.fnOf "_law_worth" "_law_worth" (defArgs s_law_worth) (defBody s_law_worth) (defScope s_law_worth) .none kV17 dc17 pm17 an17 cd17 ct17), sl17⟩) (c17 : PySem.W.codeIn K cd17 "_law_worth" = true) (k17 : PySem.W.keepIn K (.ref p_law_worth) = true)
    (a18 : PySem.W.nsIn K mainGlobals "law" = some (some (.ref p_law))) (l18 : K.lookup p_law = some ⟨oc18, od18, .func (PySem.W.fnOf "law" "law" (defArgs s_law) (defBody s_law) (defScope s_law) .none kV18 dc18 pm18 an18 cd18 ct18), sl18⟩) (c18 : PySem.W.codeIn K cd18 "law" = true) (k18 : PySem.W.keepIn K (.ref p_law) = true)
    (z_all : PySem.W.nsIn K mainGlobals "all" = some none)
    (z_any : PySem.W.nsIn K mainGlobals "any" = some none)
    (z_bool : PySem.W.nsIn K mainGlobals "bool" = some none)
    (z_dict : PySem.W.nsIn K mainGlobals "dict" = some none)
    (z_int : PySem.W.nsIn K mainGlobals "int" = some none)
    (z_isinstance : PySem.W.nsIn K mainGlobals "isinstance" = some none)
    (z_len : PySem.W.nsIn K mainGlobals "len" = some none)
    (z_list : PySem.W.nsIn K mainGlobals "list" = some none)
    (z_max : PySem.W.nsIn K mainGlobals "max" = some none)
    (z_min : PySem.W.nsIn K mainGlobals "min" = some none)
    (z_range : PySem.W.nsIn K mainGlobals "range" = some none)
    (z_sorted : PySem.W.nsIn K mainGlobals "sorted" = some none)
    (z_str : PySem.W.nsIn K mainGlobals "str" = some none)
    (z_tuple : PySem.W.nsIn K mainGlobals "tuple" = some none)
    : LawAt l.prog w K mg 9 fa [] F_law := by
  have e := hfa.symm.trans (PySem.W.mg_of X G a18)
  cases e
  have f0 := fun_mk (st := s_law_draws) l0 c0 k0
  have f1 := fun_mk (st := s_law_draw) l1 c1 k1
  have f2 := fun_mk (st := s_law_pick) l2 c2 k2
  have f3 := fun_mk (st := s_law_table) l3 c3 k3
  have f4 := fun_mk (st := s_law_outcomes) l4 c4 k4
  have f5 := fun_mk (st := s_law_key) l5 c5 k5
  have f6 := fun_mk (st := s_law_same) l6 c6 k6
  have f7 := fun_mk (st := s_value_key) l7 c7 k7
  have f8 := fun_mk (st := s_pair_key) l8 c8 k8
  have f9 := fun_mk (st := s_moves_of) l9 c9 k9
  have f10 := fun_mk (st := s_is_end) l10 c10 k10
  have f11 := fun_mk (st := s_place_right) l11 c11 k11
  have f12 := fun_mk (st := s_outcomes_right) l12 c12 k12
  have f13 := fun_mk (st := s_settled) l13 c13 k13
  have f14 := fun_mk (st := s_outcomes) l14 c14 k14
  have f15 := fun_mk (st := s_good_moves) l15 c15 k15
  have f16 := fun_mk (st := s_law_good) l16 c16 k16
  have f17 := fun_mk (st := s_law_worth) l17 c17 k17
  have f18 := fun_mk (st := s_law) l18 c18 k18
  let I : LT := ⟨[]⟩
  let lc : LC := ⟨fun _ => 0, "", 0, 0, w⟩
  have T : Txt mg := ⟨PySem.W.mg_none_of X G z_all, PySem.W.mg_none_of X G z_any, PySem.W.mg_none_of X G z_bool, PySem.W.mg_none_of X G z_dict, PySem.W.mg_none_of X G z_int, PySem.W.mg_none_of X G z_isinstance, PySem.W.mg_none_of X G z_len, PySem.W.mg_none_of X G z_list, PySem.W.mg_none_of X G z_max, PySem.W.mg_none_of X G z_min, PySem.W.mg_none_of X G z_range, PySem.W.mg_none_of X G z_sorted, PySem.W.mg_none_of X G z_str, PySem.W.mg_none_of X G z_tuple⟩
  refine ⟨PySem.W.fnOf "law" "law" (defArgs s_law) (defBody s_law) (defScope s_law) .none kV18 dc18 pm18 an18 cd18 ct18, [], [], lc, ?_, ?_, fun s v => .of_eq rfl, fun base _ _ TB => ?_⟩
  · intro p hp; cases hp
  · intro p hp; cases hp
  have e0 := c_law_draws (P := l.prog) (w := w) (base := base) f0 (PySem.W.mg_of X G a0) T
  have e1 := c_law_draw (P := l.prog) (w := w) (base := base) f1 (PySem.W.mg_of X G a1) T
  have e2 := c_law_pick (P := l.prog) (w := w) (base := base) f2 (PySem.W.mg_of X G a2) T e1
  have e3 := c_law_table (P := l.prog) (w := w) (base := base) f3 (PySem.W.mg_of X G a3) T
  have e4 := c_law_outcomes (P := l.prog) (w := w) (base := base) f4 (PySem.W.mg_of X G a4) T
  have e5 := c_law_key (P := l.prog) (w := w) (base := base) f5 (PySem.W.mg_of X G a5) T
  have e6 := c_law_same (P := l.prog) (w := w) (base := base) f6 (PySem.W.mg_of X G a6) T 5
  have e7 := c_value_key (P := l.prog) (w := w) (base := base) f7 (PySem.W.mg_of X G a7) T
  have e8 := c_pair_key (P := l.prog) (w := w) (base := base) f8 (PySem.W.mg_of X G a8) T e7
  have e9 := c_moves_of (P := l.prog) (w := w) (base := base) f9 (PySem.W.mg_of X G a9) T e8
  have e10 := c_is_end (P := l.prog) (w := w) (base := base) f10 (PySem.W.mg_of X G a10) T
  have e11 := c_place_right (P := l.prog) (w := w) (base := base) f11 (PySem.W.mg_of X G a11) T e10
  have e12 := c_outcomes_right (P := l.prog) (w := w) (base := base) f12 (PySem.W.mg_of X G a12) T e9 e11 e7
  have e13 := c_settled (P := l.prog) (w := w) (base := base) f13 (PySem.W.mg_of X G a13) T
  have e14 := c_outcomes (P := l.prog) (w := w) (base := base) f14 (PySem.W.mg_of X G a14) T e9 e13 e7
  have e15 := c_good_moves (P := l.prog) (w := w) (base := base) f15 (PySem.W.mg_of X G a15) T e9 e13
  have e16 := c_law_good (P := l.prog) (w := w) (base := base) f16 (PySem.W.mg_of X G a16) T e5
  have e17 := c_law_worth (P := l.prog) (w := w) (base := base) f17 (PySem.W.mg_of X G a17) T 8
  exact fn_ok f18 sc_law fun cdv A outer s H E hr => d_law T e0 e2 e3 e4 e1 e5 e6 e12 e14 e15 e16 e17 hr
end G89
open PySem PySem.W PyProof.Rows
set_option maxRecDepth 100000 in
set_option maxHeartbeats 0 in
theorem PySem.Challenge.cw_toldbyrules_k89_whole_who_wins_holds : PySem.Challenge.rw_toldbyrules_k89_whole_who_wins.Holds := by
  w_on; o_law; k_head; (case hw => w_witness2)
  k_fill
  refine TB.walk_law (l := PySem.Challenge.rw_toldbyrules_k89_whole_who_wins) (k := 9) [] G89.F_law rfl rfl ⟨rfl, by decide, by decide⟩ (fun w h Y => PySem.W.kIn_of Y) (by decide +kernel) ?F (fun ns hl => G89.pure_law ns hl)
  case F =>
    intro w mg fa h KX G hmg
    refine' G89.all_mk KX G hmg ?a0 ?l0 ?c0 ?k0 ?a1 ?l1 ?c1 ?k1 ?a2 ?l2 ?c2 ?k2 ?a3 ?l3 ?c3 ?k3 ?a4 ?l4 ?c4 ?k4 ?a5 ?l5 ?c5 ?k5 ?a6 ?l6 ?c6 ?k6 ?a7 ?l7 ?c7 ?k7 ?a8 ?l8 ?c8 ?k8 ?a9 ?l9 ?c9 ?k9 ?a10 ?l10 ?c10 ?k10 ?a11 ?l11 ?c11 ?k11 ?a12 ?l12 ?c12 ?k12 ?a13 ?l13 ?c13 ?k13 ?a14 ?l14 ?c14 ?k14 ?a15 ?l15 ?c15 ?k15 ?a16 ?l16 ?c16 ?k16 ?a17 ?l17 ?c17 ?k17 ?a18 ?l18 ?c18 ?k18 ?z_all ?z_any ?z_bool ?z_dict ?z_int ?z_isinstance ?z_len ?z_list ?z_max ?z_min ?z_range ?z_sorted ?z_str ?z_tuple
    (case a0 => k_is)
    (case l0 => k_is)
    (case c0 => k_is)
    (case k0 => k_is)
    (case a1 => k_is)
    (case l1 => k_is)
    (case c1 => k_is)
    (case k1 => k_is)
    (case a2 => k_is)
    (case l2 => k_is)
    (case c2 => k_is)
    (case k2 => k_is)
    (case a3 => k_is)
    (case l3 => k_is)
    (case c3 => k_is)
    (case k3 => k_is)
    (case a4 => k_is)
    (case l4 => k_is)
    (case c4 => k_is)
    (case k4 => k_is)
    (case a5 => k_is)
    (case l5 => k_is)
    (case c5 => k_is)
    (case k5 => k_is)
    (case a6 => k_is)
    (case l6 => k_is)
    (case c6 => k_is)
    (case k6 => k_is)
    (case a7 => k_is)
    (case l7 => k_is)
    (case c7 => k_is)
    (case k7 => k_is)
    (case a8 => k_is)
    (case l8 => k_is)
    (case c8 => k_is)
    (case k8 => k_is)
    (case a9 => k_is)
    (case l9 => k_is)
    (case c9 => k_is)
    (case k9 => k_is)
    (case a10 => k_is)
    (case l10 => k_is)
    (case c10 => k_is)
    (case k10 => k_is)
    (case a11 => k_is)
    (case l11 => k_is)
    (case c11 => k_is)
    (case k11 => k_is)
    (case a12 => k_is)
    (case l12 => k_is)
    (case c12 => k_is)
    (case k12 => k_is)
    (case a13 => k_is)
    (case l13 => k_is)
    (case c13 => k_is)
    (case k13 => k_is)
    (case a14 => k_is)
    (case l14 => k_is)
    (case c14 => k_is)
    (case k14 => k_is)
    (case a15 => k_is)
    (case l15 => k_is)
    (case c15 => k_is)
    (case k15 => k_is)
    (case a16 => k_is)
    (case l16 => k_is)
    (case c16 => k_is)
    (case k16 => k_is)
    (case a17 => k_is)
    (case l17 => k_is)
    (case c17 => k_is)
    (case k17 => k_is)
    (case a18 => k_is)
    (case l18 => k_is)
    (case c18 => k_is)
    (case k18 => k_is)
    (case z_all => k_is)
    (case z_any => k_is)
    (case z_bool => k_is)
    (case z_dict => k_is)
    (case z_int => k_is)
    (case z_isinstance => k_is)
    (case z_len => k_is)
    (case z_list => k_is)
    (case z_max => k_is)
    (case z_min => k_is)
    (case z_range => k_is)
    (case z_sorted => k_is)
    (case z_str => k_is)
    (case z_tuple => k_is)
end
